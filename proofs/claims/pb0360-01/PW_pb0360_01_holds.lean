import PyProof.Rows.All
import Wide.All
import OpenK.AllK
import Wide.FinOn
import Lean
import PySem.Challenge.RW_pb0360_01
set_option maxRecDepth 100000
set_option Elab.async false
set_option linter.unusedVariables false
set_option linter.unusedSimpArgs false
set_option tactic.hygienic false
open PySem PySem.W PyProof.Rows
namespace Mine.Internal
noncomputable abbrev pg:Program:=PySem.Challenge.pw_pb0360_01
noncomputable def zfN:List String:=["len","str","int","isinstance","bool","tuple","range","sorted","list"]
noncomputable abbrev bmE:List Value:=[.type "Exception",.type "BaseException",.type "object"]
noncomputable abbrev zcn:Str:="row"
noncomputable abbrev zbM:Str:="what"
noncomputable abbrev zd8:Str:="self"
noncomputable def zaE (i:Nat):Stmt:=(pg.main.body[i]?).getD (.Pass ⟨0,0,0,0⟩)
noncomputable def zcl:Stmt→List Stmt
 | .FunctionDef _ _ b ..=>b
 | .ClassDef _ _ _ b ..=>b
 | _=>[]
noncomputable def zar:Stmt→Scope
 | .FunctionDef _ _ _ _ _ _ s ..=>s
 | _=>{ kind:=.module,names:=[],isGenerator:=false,isCoroutine:=false,more:=[] }
noncomputable def mAt (i j:Nat):Stmt:=((zcl (zaE i))[j]?).getD (.Pass ⟨0,0,0,0⟩)
noncomputable def fT:List (String×String×List String):=[("","",[]),("","",[]),("","",[]),("","",[]),("conditions","conditions",[]),("operations","operations",[]),("memory_names","memory_names",[]),("is_whole","is_whole",["value","low","high"]),("is_register","is_register",["value"]),("immediate_operation","immediate_operation",["name"]),("operation_fault","operation_fault",["row"]),("memory_fault","memory_fault",["row"]),("branch_fault","branch_fault",["row"]),("row_fault","row_fault",["row"]),("operation_word","operation_word",["row"]),("branch_word","branch_word",["row"]),("encode","encode",["row"]),("","",[]),("","",[]),("is_letter","is_letter",["char"]),("is_figure","is_figure",["char"]),("word_end","word_end",["line","start"]),("row_tokens","row_tokens",["line","row"]),("is_number","is_number",["token"]),("","",[]),("memory_row","memory_row",["reader","name"]),("operation_row","operation_row",["reader","name"]),("read_row","read_row",["reader"]),("label_of","label_of",["tokens","row"]),("aimed","aimed",["name","cond","target","index","labels","row"]),("assemble","assemble",["text"]),("","",[]),("register_text","register_text",["number"]),("operands_text","operands_text",["row"]),("row_text","row_text",["row","label"]),("target_of","target_of",["rows","index"]),("label_names","label_names",["rows"]),("disassemble","disassemble",["rows"]),("hex_word","hex_word",["word"]),("listing","listing",["rows","base"]),("names_used","names_used",["rows"]),("","",[]),("_law_row","_law_row",["script"]),("_law_next","_law_next",["row"]),("_law_names","_law_names",[]),("_law_conds","_law_conds",[]),("_law_big","_law_big",["row","low","high"]),("_law_made","_law_made",["row"]),("_law_sound","_law_sound",["row"]),("_law_words","_law_words",["row","made","mark_of"]),("_law_kept","_law_kept",["words"]),("law","law",["script"]),("__init__","RowReader.__init__",["self","tokens","row"]),("fail","RowReader.fail",["self","what"]),("take","RowReader.take",["self"]),("expect","RowReader.expect",["self","sign"]),("register","RowReader.register",["self"]),("whole","RowReader.whole",["self"]),("next_register","RowReader.next_register",["self"]),("next_whole","RowReader.next_whole",["self"]),("condition","RowReader.condition",["self"]),("target","RowReader.target",["self"]),("finish","RowReader.finish",["self"])]
noncomputable def fR (n:Nat):String×String×List String:=fT.getD n ("","",[])
noncomputable def fN (n:Nat):Str:=Str.ofString (fR n).1
noncomputable def fQ (n:Nat):Str:=Str.ofString (fR n).2.1
noncomputable def fP (n:Nat):List Str:=(fR n).2.2.map Str.ofString
noncomputable def sOf (n:Nat):Stmt:=bif n.blt 52 then zaE n else mAt 24 (n - 52)
noncomputable def gI:List Nat:=[4,5,6,7,8,9,10,11,12,13,14,15,16,19,20,21,22,23,25,26,27,28,29,30,32,33,34,35,36,37,38,39,40,42,43,44,45,46,47,48,49,50,51]
noncomputable def fI:List Nat:=[4,5,6,7,8,9,10,11,12,13,14,15,16,19,20,21,22,23,25,26,27,28,29,30,32,33,35,36,37,38,40,42,43,44,45,46,47,48,49,50,51,52,53,54,55,56,57,58,59,60,61,62]
noncomputable def fnV:Option Value→Addr
 | some (.ref a)=>a
 | _=>0
noncomputable def zq3:Option Value→Bool
 | some (.ref _)=>true
 | _=>false
noncomputable abbrev sRR:Str:=Str.ofString "RowReader"
noncomputable abbrev sAE:Str:=Str.ofString "AsmError"
noncomputable abbrev sYE:Str:=Str.ofString "YardError"
noncomputable abbrev sIn:Str:=Str.ofString "__init__"
noncomputable def gA (h:Heap) (n:Str):Addr:=fnV (h.nsMap mainGlobals n)
noncomputable def cNs (h:Heap) (n:Str):Addr:=match h.clsAt mainGlobals n with
 | some (_,_,cd)=>cd.ns
 | none=>0
noncomputable def mA (h:Heap) (c n:Str):Addr:=fnV (h.nsMap (cNs h c) n)
noncomputable def mns:List Str:=(List.range 11).map fun n=>fN (n+52)
noncomputable def gns:List Str:=gI.map fN ++ [sRR,sAE,sYE]
noncomputable def cns:List Str:=[Str.ofString "tokens",Str.ofString "row",Str.ofString "place"]
noncomputable def zvi (h:Heap):List Addr:=[gA h sRR,cNs h sRR,gA h sAE,cNs h sAE,gA h sYE,cNs h sYE,mA h sAE sIn] ++ mns.map (mA h sRR)
noncomputable def zb3 (h:Heap):Frag:=(zvi h).filterMap fun a=>(h.get? a).map fun o=>(a,o)
noncomputable def shp (h:Heap) (a:Addr):Option FnShape:=match h.get? a with
 | some o=>(match o.data with
  | .func fd=>some ⟨fd.name,fd.qualname,fd.params,fd.body,fd.scope,fd.globals,fd.closure,fd.defaults,fd.kwdefaults,fd.annotations,fd.closureTuple,fd.builtins,h.codeRecOk fd.code fd.qualname⟩
  | _=>none)
 | none=>none
noncomputable def zq4:Stmt→Arguments
 | .FunctionDef _ a ..=>a
 | _=>⟨[],[],none,[],[],none,[]⟩
noncomputable def zjj (df:Value) (n q:Str) (st:Stmt):Option FnShape:=some ⟨n,q,zq4 st,.stmts (zcl st),zar st,mainGlobals,[],df,.none,none,.none,builtinsNs,true⟩
noncomputable abbrev xsh (n q:Str) (st:Stmt):Option FnShape:=zjj .none n q st
noncomputable def zlF (h:Heap) (a:Addr):Option (List Value):=match h.get? a with
 | some o=>(match o.data with
  | .seq items _=>some items.toList
  | _=>none)
 | none=>none
noncomputable def zwS (h:Heap):Bool:=match h.clsAt mainGlobals sAE with
 | some (C,o,cd)=>
  decide (o.cls = .type "type") && decide (cd.mro = .ref C :: .ref (gA h sYE) :: bmE) && !cd.hasDel && cd.hasDict && decide (o.slots.size=6) &&
   decide (o.slots[4]? = some (some (.builtin "Exception.__new__"))) && h.isNs cd.ns
 | none=>false
noncomputable def zwT (h:Heap):Bool:=match h.clsAt mainGlobals sYE with
 | some (_,_,cd)=>h.isNs cd.ns && (h.nsMap cd.ns sIn).isNone
 | none=>false
noncomputable def zwU (h:Heap) (a:Addr):Bool:=match h.get? a with
 | some o=>decide (o.cls = .type "function")
 | none=>false
noncomputable def zwV (h:Heap):Bool:=plainGet (zb3 h) (gA h sRR) sIn
noncomputable def zwW (h:Heap):Bool:=hasDictIn (zb3 h) (gA h sRR)
noncomputable def zwX (h:Heap):Bool:=cns.all fun n=>findIn (zb3 h) (.ref (gA h sRR)) n == some none
noncomputable def zwY (h:Heap):Bool:=findIn (zb3 h) (.ref (gA h sRR)) "__setattr__" == some (some (.builtin "object.__setattr__"))
noncomputable def zwZ (h:Heap):Bool:=plainOver (zb3 h) (gA h sRR)
noncomputable def zw0 (h:Heap):Bool:=cns.all fun n=>takerIn (zb3 h) (gA h sRR) n == some none
noncomputable def zw1 (h:Heap):Bool:=makesIn (zb3 h) (gA h sRR)
noncomputable def zw2 (h:Heap):Bool:=mns.all fun n=>isFn (zb3 h) (.ref (mA h sRR n)) && findIn (zb3 h) (.ref (gA h sRR)) n == some (some (.ref (mA h sRR n)))
noncomputable def zw3 (h:Heap):Bool:=keepIn (zb3 h) (.ref (gA h sRR))
noncomputable def zw4 (h:Heap):Bool:=keepIn (zb3 h) (.ref (gA h sAE))
noncomputable def zw5 (h:Heap):Bool:=findIn (zb3 h) (.ref (gA h sAE)) "__setattr__" == some (some (.builtin "object.__setattr__"))
noncomputable def zw6 (h:Heap):Bool:=hasDictIn (zb3 h) (gA h sAE)
noncomputable def zw7 (h:Heap):Bool:=findIn (zb3 h) (.ref (gA h sAE)) "__getattribute__" == some (some (.builtin "BaseException.__getattribute__"))
noncomputable def zw8 (h:Heap):Bool:=findIn (zb3 h) (.ref (gA h sAE)) "__getattr__" == some none
noncomputable def zw9 (h:Heap):Bool:=findIn (zb3 h) (.ref (gA h sAE)) zcn == some none
noncomputable def zxa (h:Heap):Bool:=findIn (zb3 h) (.ref (gA h sAE)) zbM == some none
noncomputable def zxb (h:Heap):Bool:=takerIn (zb3 h) (gA h sAE) zcn == some none
noncomputable def zxc (h:Heap):Bool:=takerIn (zb3 h) (gA h sAE) zbM == some none
noncomputable def ztM (h:Heap):Bool:=zwS h
noncomputable def ztN (h:Heap):Bool:=zwT h
noncomputable def ztO (h:Heap):Bool:=zq3 (h.nsMap (cNs h sAE) sIn) && zwU h (mA h sAE sIn)
noncomputable def zxd (h:Heap):Bool:=gns.all fun n=>zq3 (h.nsMap mainGlobals n)
noncomputable def zxe (h:Heap):Bool:=zfN.all fun n=>(h.nsMap mainGlobals (Str.ofString n)).isNone
noncomputable def zxf (h:Heap):Bool:=h.isNs mainGlobals
noncomputable def zq5 (h:Heap):List Bool:=[zwV h,zwW h,zwX h,zwY h,zwZ h,zw0 h,zw1 h,zw2 h,zw3 h,zw4 h,zw5 h,zw6 h,zw7 h,zw8 h,zw9 h,zxa h,zxb h,zxc h,ztM h,ztN h,ztO h,zxd h,zxe h,zxf h]
noncomputable def adH (h:Heap) (n:Nat):Addr:=bif n.blt 52 then gA h (fN n) else mA h sRR (fN (n - 52+52))
noncomputable def zk6 (h:Heap) (l:List Nat):List (Option FnShape):=l.map fun n=>shp h (adH h n)
noncomputable def zk7 (l:List Nat):List (Option FnShape):=l.map fun n=>xsh (fN n) (fQ n) (sOf n)
noncomputable def zq6 (h:Heap):List (Option FnShape):=shp h (mA h sAE sIn) :: shp h (gA h (fN 34)) :: shp h (gA h (fN 39)) :: zk6 h fI
noncomputable def zq7:List (Option FnShape):=xsh sIn (Str.ofString "AsmError.__init__") (mAt 18 0) :: zjj (.ref 339) (fN 34) (fN 34) (zaE 34) :: zjj (.ref 375) (fN 39) (fN 39) (zaE 39) :: zk7 fI
noncomputable def tps (h:Heap):List (Option (List Value)):=[zlF h 339,zlF h 375]
noncomputable def zq8:List (Option (List Value)):=[some [.str (Str.ofString "") 619],some [.int 0 674]]
section
open PySem.Calls
section
variable (tb:String→Option Builtin) (p:Program) (w:World) (n₀:Nat) (ann:Option Value)
noncomputable def zk8:Nat→SharedT→Thread→Option SharedT
 | 0,_,_=>none
 | n+1,s,t=>match through t with
  | true=>some s
  | false=>match stepOk n₀ ann t with
   | false=>none
   | true=>match stepT (denote tb) p w s t with
    | some (s',t')=>zk8 n s' t'
    | none=>none
set_option tactic.hygienic true in
theorem zm7:∀ (n:Nat) (s:SharedT) (t:Thread) (s':SharedT),zk8 tb p w n₀ ann n s t=some s'→topRun tb p w n₀ ann n s.abs t=some s'.abs
 | 0,s,t,s',h=>by cases h
 | n+1,s,t,s',h=>by
  unfold zk8 at h
  unfold topRun
  cases h1:through t with
  | true=>rw [h1] at h;cases h;rfl
  | false=>
   rw [h1] at h
   cases h2:stepOk n₀ ann t with
   | false=>rw [h2] at h;cases h
   | true=>
    rw [h2] at h
    dsimp only at h ⊢
    split at h
    ·rename_i s2 t2 h3
     rw [stepT_spec h3]
     exact zm7 n s2 t2 s' h
    ·cases h
end
noncomputable def zr8:List Obj→Nat→BT→BT
 | [],_,t=>t
 | o :: r,n,t=>zr8 r (n+1) (t.ins n o)
noncomputable def zlG (w:World) (os:OsState):SharedT:=⟨zr8 (boot_heap w.params).objs.toList 0 .nil,11,(boot_heap w.params).life,#[],boot_drawn,boot_toks,os⟩
theorem zr9 (w:World) (os:OsState):(zlG w os).abs=⟨boot_heap w.params,Array.mk [],boot_drawn,boot_toks,os⟩:=by kernel_rfl
noncomputable def qv:Program:=view pg [51]
noncomputable def zfO:List Str:=[Str.ofString "YardError",Str.ofString "BadRow",Str.ofString "conditions",Str.ofString "operations",Str.ofString "memory_names",Str.ofString "is_whole",Str.ofString "is_register",Str.ofString "immediate_operation",Str.ofString "operation_fault",Str.ofString "memory_fault",Str.ofString "branch_fault",Str.ofString "row_fault",Str.ofString "operation_word",Str.ofString "branch_word",Str.ofString "encode",Str.ofString "AsmError",Str.ofString "is_letter",Str.ofString "is_figure",Str.ofString "word_end",Str.ofString "row_tokens",Str.ofString "is_number",Str.ofString "RowReader",Str.ofString "memory_row",Str.ofString "operation_row",Str.ofString "read_row",Str.ofString "label_of",Str.ofString "aimed",Str.ofString "assemble",Str.ofString "register_text",Str.ofString "operands_text",Str.ofString "row_text",Str.ofString "target_of",Str.ofString "label_names",Str.ofString "disassemble",Str.ofString "hex_word",Str.ofString "listing",Str.ofString "names_used",Str.ofString "_law_row",Str.ofString "_law_next",Str.ofString "_law_names",Str.ofString "_law_conds",Str.ofString "_law_big",Str.ofString "_law_made",Str.ofString "_law_sound",Str.ofString "_law_words",Str.ofString "_law_kept"]
noncomputable def xt (s:Shared):Bool:=xlAt qv [] s && recOk [] s
noncomputable def zlH (h₀:Heap) (s:Shared):Bool:=staticsOk (importedModules pg.main.body) h₀ s.heap && namesBound pg s.heap && gensDone s && laidKept h₀ s.heap
noncomputable def zob (s:Shared):List Bool×List (Option FnShape)×List (Option (List Value)):=(zq5 s.heap,zq6 s.heap,tps s.heap)
noncomputable def zoc:List Bool×List (Option FnShape)×List (Option (List Value)):=(List.replicate 24 true,zq7,zq8)
theorem zzG:∀ (w:World) (os:OsState),(zk8 treeTable pg w 11 (some (.ref 6)) 2700 (zlG w os) (topStub pg)).map (fun s=>(zlH (boot_heap w.params) s.abs,openSeen qv zfO (importedModules pg.main.body) xt true s.abs))=some (true,openGood qv zfO):=by
 intro w os
 kernel_rfl
theorem zzH:∀ (w:World) (os:OsState),(zk8 treeTable pg w 11 (some (.ref 6)) 2700 (zlG w os) (topStub pg)).map (fun s=>(zq5 s.abs.heap,tps s.abs.heap,shp s.abs.heap (mA s.abs.heap sAE sIn),shp s.abs.heap (gA s.abs.heap (fN 34)),shp s.abs.heap (gA s.abs.heap (fN 39)),zk6 s.abs.heap (fI.take 14))) =
  some (List.replicate 24 true,zq8,xsh sIn (Str.ofString "AsmError.__init__") (mAt 18 0),zjj (.ref 339) (fN 34) (fN 34) (zaE 34),zjj (.ref 375) (fN 39) (fN 39) (zaE 39),zk7 (fI.take 14)):=by
 intro w os
 kernel_rfl
theorem zzI:∀ (w:World) (os:OsState),(zk8 treeTable pg w 11 (some (.ref 6)) 2700 (zlG w os) (topStub pg)).map (fun s=>zk6 s.abs.heap (fI.drop 14))=some (zk7 (fI.drop 14)):=by
 intro w os
 kernel_rfl
theorem zvB {h:Heap} (h1:shp h (mA h sAE sIn)=xsh sIn (Str.ofString "AsmError.__init__") (mAt 18 0)) (h2:shp h (gA h (fN 34))=zjj (.ref 339) (fN 34) (fN 34) (zaE 34)) (h3:shp h (gA h (fN 39))=zjj (.ref 375) (fN 39) (fN 39) (zaE 39))
  (h4:zk6 h (fI.take 14)=zk7 (fI.take 14)) (h5:zk6 h (fI.drop 14)=zk7 (fI.drop 14)):zq6 h=zq7:=by
 have e:zk6 h fI=zk7 fI:=by
  have:zk6 h (fI.take 14 ++ fI.drop 14)=zk7 (fI.take 14 ++ fI.drop 14):=List.map_append.trans ((congr (congrArg HAppend.hAppend h4) h5).trans List.map_append.symm)
  rwa [List.take_append_drop] at this
 exact congr (congrArg List.cons h1) (congr (congrArg List.cons h2) (congr (congrArg List.cons h3) e))
noncomputable abbrev rw0:OpenLaw:=PySem.Challenge.rw_pb0360_01
set_option maxHeartbeats 8000000 in
theorem said0:rw0.wellSaid=true:=by
 delta OpenLaw.wellSaid
 repeat' (with_reducible refine look_both ?_ ?_)
 ·delta OpenRow.wellSaid
  repeat' (with_reducible refine look_both ?_ ?_)
  ·delta OpenRow.partSaid
   repeat' (with_reducible refine look_both ?_ ?_)
   all_goals decide +kernel
  all_goals decide +kernel
 all_goals decide +kernel
end
set_option genSizeOf false
inductive D where
 | none
 | bool (b:Bool)
 | int (i:Int)
 | str (s:List Nat)
 | tup (xs:List D)
 | lst (xs:List D)
 | dcI (kvs:List (Int×D))
 | dcS (kvs:List (List Nat×D))
 | ty (n:String)
inductive V where
 | d (x:D)
 | ref (k:Nat)
set_option genInjectivity false
inductive MO where
 | list (ds:List D)
 | dcI (kvs:List (Int×D))
 | dcS (kvs:List (List Nat×D))
 | inst (fs:List D)
 | exc (row:Int) (what:List Nat)
 | dead
noncomputable abbrev Loc:=List (Option V)
noncomputable abbrev Mem:=List MO
noncomputable abbrev SI:=Addr→Obj→Prop
noncomputable def str (s:List Nat):Str:=⟨s.toArray⟩
noncomputable def zk9 (cls:String) (o:Obj) (vs:List Value):Prop:=∃ n,o={ cls:=.type cls,dict:=none,data:=.seq vs.toArray n,slots:=#[] }
structure ze5 {K:Type} [DecidableEq K] {w:World} (knd:KeyKind pg w K) (o:Obj) (kvs:List (K×Value)):Prop where
 exact:o.ExactDict
 data:∃ es ep,o.data = .dict es ep∧PySem.KeysOf knd es∧PySem.Pairs knd es.toList kvs
 nodup:(kvs.map (·.1)).Nodup
mutual
inductive Rd (w:World) (I:SI):D→Value→Prop
 | none:Rd w I .none .none
 | bool (b):Rd w I (.bool b) (.bool b)
 | int (i t):Rd w I (.int i) (.int i t)
 | str (s t):Rd w I (.str s) (.str (Mine.Internal.str s) t)
 | ty (n):Rd w I (.ty n) (.type n)
 | tup {a o vs ds}:I a o→zk9 "tuple" o vs→zaC w I ds vs→Rd w I (.tup ds) (.ref a)
 | lst {a o vs ds}:I a o→zk9 "list" o vs→zaC w I ds vs→Rd w I (.lst ds) (.ref a)
 | dcI {a o} {kvs:List (Int×D)} {kws:List (Int×Value)}:I a o→(a == sysModules)=false→ze5 (intKind pg w) o kws→kws.map (·.1)=kvs.map (·.1)→zaC w I (kvs.map (·.2)) (kws.map (·.2))→Rd w I (.dcI kvs) (.ref a)
 | dcS {a o} {kvs:List (List Nat×D)} {kws:List (Str×Value)}:I a o→(a == sysModules)=false→ze5 (PySem.strKind pg w) o kws→kws.map (·.1)=kvs.map (fun p=>Mine.Internal.str p.1)→zaC w I (kvs.map (·.2)) (kws.map (·.2))→Rd w I (.dcS kvs) (.ref a)
inductive zaC (w:World) (I:SI):List D→List Value→Prop
 | nil:zaC w I [] []
 | cons {d ds v vs}:Rd w I d v→zaC w I ds vs→zaC w I (d :: ds) (v :: vs)
end
noncomputable def RdI (w:World) (I J:SI) (v:Value) (d:D):Prop:=D.casesOn (motive_1:=fun x_=>Prop) d (v = .none) (fun b=>v = .bool b) (fun i=>∃ t,v = .int i t) (fun s=>∃ t,v = .str (Mine.Internal.str s) t)
 (fun ds=>∃ a o vs,v = .ref a∧J a o∧zk9 "tuple" o vs∧zaC w I ds vs) (fun ds=>∃ a o vs,v = .ref a∧J a o∧zk9 "list" o vs∧zaC w I ds vs)
 (fun kvs=>∃ a o kws,v = .ref a∧J a o∧(a == sysModules)=false∧ze5 (intKind pg w) o kws∧kws.map (·.1)=kvs.map (·.1)∧zaC w I (kvs.map (·.2)) (kws.map (·.2)))
 (fun kvs=>∃ a o kws,v = .ref a∧J a o∧(a == sysModules)=false∧ze5 (PySem.strKind pg w) o kws∧kws.map (·.1)=kvs.map (fun p=>Mine.Internal.str p.1)∧zaC w I (kvs.map (·.2)) (kws.map (·.2)))
 (fun n=>v = .type n)
theorem Rd.inv {w:World} {I J:SI} (h:∀ a o,I a o→J a o) {d:D} {v:Value} (r:Rd w I d v):RdI w I J v d:=
 Rd.casesOn (motive_1:=fun d v x_=>RdI w I J v d) r rfl (fun x_=>rfl) (fun x_ t=>⟨t,rfl⟩) (fun x_ t=>⟨t,rfl⟩) (fun x_=>rfl) (fun a b c=>⟨_,_,_,rfl,h _ _ a,b,c⟩) (fun a b c=>⟨_,_,_,rfl,h _ _ a,b,c⟩)
  (fun a z b c d=>⟨_,_,_,rfl,h _ _ a,z,b,c,d⟩) (fun a z b c d=>⟨_,_,_,rfl,h _ _ a,z,b,c,d⟩)
theorem Rd.mono {w:World} {I J:SI} (h:∀ a o,I a o→J a o) {d:D} {v:Value} (r:Rd w I d v):Rd w J d v:=
 Rd.rec (motive_1:=fun d v x_=>Rd w J d v) (motive_2:=fun ds vs x_=>zaC w J ds vs) .none .bool .int .str .ty (fun a b x_ c=>.tup (h _ _ a) b c) (fun a b x_ c=>.lst (h _ _ a) b c)
  (fun a z b c x_ d=>.dcI (h _ _ a) z b c d) (fun a z b c x_ d=>.dcS (h _ _ a) z b c d) .nil (fun x_ x_ a b=>.cons a b) r
theorem zaC.mono {w:World} {I J:SI} (h:∀ a o,I a o→J a o) {ds:List D} {vs:List Value} (r:zaC w I ds vs):zaC w J ds vs:=
 zaC.rec (motive_1:=fun d v x_=>Rd w J d v) (motive_2:=fun ds vs x_=>zaC w J ds vs) .none .bool .int .str .ty (fun a b x_ c=>.tup (h _ _ a) b c) (fun a b x_ c=>.lst (h _ _ a) b c)
  (fun a z b c x_ d=>.dcI (h _ _ a) z b c d) (fun a z b c x_ d=>.dcS (h _ _ a) z b c d) .nil (fun x_ x_ a b=>.cons a b) r
theorem zaC.ind {w:World} {I:SI} {P:List D→List Value→Prop} (h0:P [] []) (h1:∀ {d v ds vs},Rd w I d v→zaC w I ds vs→P ds vs→P (d :: ds) (v :: vs)) {ds:List D} {vs:List Value} (r:zaC w I ds vs):P ds vs:=
 zaC.rec (motive_1:=fun x_ x_ x_=>True) (motive_2:=fun ds vs x_=>P ds vs) trivial (fun x_=>trivial) (fun x_ x_=>trivial) (fun x_ x_=>trivial) (fun x_=>trivial) (fun x_ x_ x_ x_=>trivial) (fun x_ x_ x_ x_=>trivial) (fun x_ x_ x_ x_ x_ x_=>trivial) (fun x_ x_ x_ x_ x_ x_=>trivial) h0 (fun a b x_ c=>h1 a b c) r
theorem zaC.length {w:World} {I:SI} {ds:List D} {vs:List Value} (r:zaC w I ds vs):ds.length=vs.length:=r.ind (P:=fun ds vs=>ds.length=vs.length) rfl fun x_ x_ e=>congrArg Nat.succ e
inductive Fk where
 | act (env:Env) (m:Str→Option Value)
 | pin (o:Obj)
structure Fm where
 L:Addr
 k:Fk
noncomputable def Fm.env? (f:Fm):Option Env:=match f.k with
 | .act e _=>some e
 | .pin _=>none
noncomputable def zh2 (h:Heap) (f:Fm):Prop:=match f.k with
 | .act e m=>h.Ns f.L m∧e.frame=some f.L∧e.scope.kind = .function
 | .pin o=>h.get? f.L=some o
noncomputable abbrev zod (fs:List Fm):List Env:=fs.filterMap Fm.env?
structure KK where
 w:World
 B:Heap
 K:Frag
 fa:Nat→Addr
 ma:Nat→Addr
 os:OsState
 C:Addr
 names:List Str
 X:Addr
 xnames:List Str
 mg:Str→Option Value
 mb:Str→Option Value
structure Cx where
 A:Around
 q:Str
 sc:Scope
 L:Addr
 f:Addr
 cd:Value
 rest:List Fm
 nb:Nat
 cl:List (Str×Addr)
 cv:List (Str×Value)
noncomputable def Cx.env (c:Cx):Env:={ envOf c.q c.sc c.L c.f c.cd with cells:=c.cl }
noncomputable def Cx.fr (c:Cx):List Addr:=c.L :: c.rest.map (·.L)
noncomputable def Cx.fs (c:Cx) (m:Str→Option Value):List Fm:=⟨c.L,.act c.env m⟩ :: c.rest
structure zbx (n:Nat) (c:Cx):Prop where
 frames:c.A.frames=some (c.env :: zod c.rest)
 kind:c.sc.kind = .function
 handled:c.A.handled=none
 depth:c.A.depth+20 * n+20≤1000
 units:c.A.units+100 * n+100≤9900
 names:(c.sc.names.map (·.1)).Nodup
 cells:∀ x val,c.cv.lookup x=some val→∃ ca o,c.cl.lookup x=some ca∧(⟨ca,.pin o⟩:Fm)∈c.rest∧o.data = .cell (some val)
noncomputable def Im (h:Heap) (ρ:List (List Addr)) (φ:List Addr):SI:=fun a o=>h.get? a=some o∧a∉ρ.flatten∧a∉φ
inductive zeE (P:Params):List Str→List Value→List DictEntry→Prop
 | nil:zeE P [] [] []
 | cons {n v ns vs es} (t:Tok):zeE P ns vs es→zeE P (n :: ns) (v :: vs) (⟨PyData.keyHash P n,.str n t,v⟩ :: es)
structure zh3 (κ:KK) (h:Heap) (I:SI) (row:Int) (what:List Nat) (e dx:Addr) (t:List Addr):Prop where
 ob:∃ vs xs es n,h.get? e=some { cls:=.ref κ.X,dict:=some dx,data:=.fields vs,slots:=#[] }∧h.get? dx=some (dictOf es n)∧zeE κ.w.params κ.xnames xs es∧zaC κ.w I [.int row,.str what] xs∧
  ((t=[]∧vs[1]? = some .none)∨∃ T cl ts,t=[T]∧vs[1]? = some (.ref T)∧h.get? T=some { cls:=cl,dict:=none,data:=.fields ts,slots:=#[] }∧3 < ts.size)
inductive zcV (κ:KK) (h:Heap) (I:SI):MO→List Addr→Prop
 | list {a o vs ds}:h.get? a=some o→zk9 "list" o vs→zaC κ.w I ds vs→zcV κ h I (.list ds) [a]
 | dcI {a o} {kvs:List (Int×D)} {kws:List (Int×Value)}:h.get? a=some o→(a == sysModules)=false→ze5 (intKind pg κ.w) o kws→kws.map (·.1)=kvs.map (·.1)→zaC κ.w I (kvs.map (·.2)) (kws.map (·.2))→zcV κ h I (.dcI kvs) [a]
 | dcS {a o} {kvs:List (List Nat×D)} {kws:List (Str×Value)}:h.get? a=some o→(a == sysModules)=false→ze5 (PySem.strKind pg κ.w) o kws→kws.map (·.1)=kvs.map (fun p=>Mine.Internal.str p.1)→zaC κ.w I (kvs.map (·.2)) (kws.map (·.2))→zcV κ h I (.dcS kvs) [a]
 | inst {x dx es n fs vs}:h.get? x=some (instObj κ.C dx)→h.get? dx=some (dictOf es n)→zeE κ.w.params (κ.names.take fs.length) vs es→zaC κ.w I fs vs→fs.length≤κ.names.length→zcV κ h I (.inst fs) [x,dx]
 | exc {e dx t row what}:zh3 κ h I row what e dx t→zcV κ h I (.exc row what) (e :: dx :: t)
 | dead:zcV κ h I .dead []
structure Inv (κ:KK) (h:Heap) (fs:List Fm) (ρ:List (List Addr)) (μ:Mem):Prop where
 keep:κ.B.StaysIn h
 ns:∀ f∈fs,zh2 h f
 nodup:(ρ.flatten ++ fs.map (·.L)).Nodup
 new:∀ a∈ρ.flatten,κ.B.get? a=none
 newF:∀ f∈fs,κ.B.objs.size≤f.L
 len:ρ.length=μ.length
 objs:∀ (k:Nat) (o:MO),μ[k]? = some o→∃ l,ρ[k]? = some l∧zcV κ h (Im h ρ (fs.map (·.L))) o l
inductive RV (w:World) (I:SI) (ρ:List (List Addr)):V→Value→Prop
 | d {x v}:Rd w I x v→RV w I ρ (.d x) v
 | ref {k a l}:ρ[k]? = some (a :: l)→RV w I ρ (.ref k) (.ref a)
noncomputable def RVI (w:World) (I:SI) (ρ:List (List Addr)) (val:Value) (v:V):Prop:=V.casesOn (motive:=fun _=>Prop) v (fun x=>Rd w I x val) fun k=>∃ a l,val = .ref a∧ρ[k]? = some (a :: l)
theorem RV.inv {w:World} {I:SI} {ρ:List (List Addr)} {v:V} {val:Value} (r:RV w I ρ v val):RVI w I ρ val v:=RV.casesOn (motive:=fun v val _=>RVI w I ρ val v) r id fun e=>⟨_,_,rfl,e⟩
noncomputable def zxg (m:Str→Option Value) (cv:List (Str×Value)) (x:Str):NameKind→Value→Prop
 | .local,val=>m x=some val
 | .cell,val=>cv.lookup x=some val
 | _,_=>False
noncomputable def zik (w:World) (sc:Scope) (cv:List (Str×Value)) (I:SI) (ρ:List (List Addr)) (σ:Loc) (m:Str→Option Value):Prop:=
 ∀ (i:Nat) (v:V),σ[i]? = some (some v)→∃ x k val,sc.names[i]? = some (x,k)∧zxg m cv x k val∧RV w I ρ v val
structure Stt (κ:KK) (c:Cx) (s:Shared) (σ:Loc) (ρ:List (List Addr)) (μ:Mem) (m:Str→Option Value):Prop where
 inv:Inv κ s.heap (c.fs m) ρ μ
 loc:zik κ.w c.sc c.cv (Im s.heap ρ c.fr) ρ σ m
 nb:c.nb≤μ.length
 gens:s.gens = #[]
 os:s.os=κ.os
noncomputable def zd9 (s s':Shared):Prop:=∀ a o,s.heap.get? a=some o→∃ o',s'.heap.get? a=some o'
theorem zd9.none {s s':Shared} (h:zd9 s s') {a:Addr} (e:s'.heap.get? a=none):s.heap.get? a=none:=by
 cases q:s.heap.get? a with
 | none=>rfl
 | some o=>obtain ⟨o',h'⟩:=h a o q;rw [e] at h';cases h'
noncomputable def zaG (c:Cx) (ρ:List (List Addr)) (s s':Shared):Prop:=zd9 s s'∧∀ a o,Im s.heap ρ c.fr a o→s'.heap.get? a=some o
noncomputable def zbj (s:Shared) (ρ ρ':List (List Addr)):Prop:=∃ e,ρ' = ρ ++ e∧∀ a∈e.flatten,s.heap.get? a=none
inductive Xn where
 | asm (row:Int) (what:List Nat)
inductive RX (α:Type) where
 | ok (v:α) (μ:Mem)
 | exc (x:Xn) (μ:Mem)
 | stuck
noncomputable abbrev RE:=RX V
noncomputable def RX.bind {α β:Type} (r:RX α) (k:α→Mem→RX β):RX β:=match r with
 | .ok v μ=>k v μ
 | .exc x μ=>.exc x μ
 | .stuck=>.stuck
theorem zla {P:Addr→Prop}:∀ a∈([]:List Addr),P a:=fun x_ h=>nomatch h
theorem zjk {P:Addr→Prop} {b:Addr} {l:List Addr} (h:P b) (t:∀ a∈l,P a):∀ a∈b :: l,P a:=List.forall_mem_cons.mpr ⟨h,t⟩
noncomputable def MOI (κ:KK) (h:Heap) (I:SI) (l:List Addr) (o:MO):Prop:=MO.casesOn (motive:=fun x_=>Prop) o (fun ds=>∃ a o vs,l=[a]∧h.get? a=some o∧zk9 "list" o vs∧zaC κ.w I ds vs)
 (fun kvs=>∃ a o kws,l=[a]∧h.get? a=some o∧(a == sysModules)=false∧ze5 (intKind pg κ.w) o kws∧kws.map (·.1)=kvs.map (·.1)∧zaC κ.w I (kvs.map (·.2)) (kws.map (·.2)))
 (fun kvs=>∃ a o kws,l=[a]∧h.get? a=some o∧(a == sysModules)=false∧ze5 (PySem.strKind pg κ.w) o kws∧kws.map (·.1)=kvs.map (fun p=>Mine.Internal.str p.1)∧zaC κ.w I (kvs.map (·.2)) (kws.map (·.2)))
 (fun fs=>∃ x dx es n vs,l=[x,dx]∧h.get? x=some (instObj κ.C dx)∧h.get? dx=some (dictOf es n)∧zeE κ.w.params (κ.names.take fs.length) vs es∧zaC κ.w I fs vs∧fs.length≤κ.names.length)
 (fun row what=>∃ e dx t,l=e :: dx :: t∧zh3 κ h I row what e dx t) (l=[])
theorem zcV.inv {κ:KK} {h:Heap} {I:SI} {o:MO} {l:List Addr} (M:zcV κ h I o l):MOI κ h I l o:=
 zcV.casesOn (motive:=fun o l x_=>MOI κ h I l o) M (fun a b c=>⟨_,_,_,rfl,a,b,c⟩) (fun a z b c d=>⟨_,_,_,rfl,a,z,b,c,d⟩) (fun a z b c d=>⟨_,_,_,rfl,a,z,b,c,d⟩) (fun a b c d e=>⟨_,_,_,_,_,rfl,a,b,c,d,e⟩)
  (fun x=>⟨_,_,_,rfl,x⟩) rfl
theorem zh3.has {κ:KK} {h:Heap} {I:SI} {row:Int} {what:List Nat} {e dx:Addr} {t:List Addr} (x:zh3 κ h I row what e dx t):∀ a∈e :: dx :: t,∃ ob,h.get? a=some ob:=by
 obtain ⟨_,_,_,_,h1,h2,_,_,h3⟩:=x.ob
 refine zjk ⟨_,h1⟩ (zjk ⟨_,h2⟩ (h3.elim (fun q=>q.1▸zla) fun h3=>?_))
 obtain ⟨_,_,_,e,_,h3,_⟩:=h3
 exact e▸zjk ⟨_,h3⟩ zla
theorem zcV.has {κ:KK} {h:Heap} {I:SI} {o:MO} {l:List Addr} (M:zcV κ h I o l):∀ a∈l,∃ ob,h.get? a=some ob:=
 zcV.casesOn (motive:=fun x_ l x_=>∀ a∈l,∃ ob,h.get? a=some ob) M (fun g x_ x_=>zjk ⟨_,g⟩ zla) (fun g x_ x_ x_ x_=>zjk ⟨_,g⟩ zla) (fun g x_ x_ x_ x_=>zjk ⟨_,g⟩ zla) (fun g1 g2 x_ x_ x_=>zjk ⟨_,g1⟩ (zjk ⟨_,g2⟩ zla)) zh3.has zla
theorem zh2.has {h:Heap} {f:Fm} (x:zh2 h f):∃ o,h.get? f.L=some o:=by
 obtain ⟨L,k⟩:=f
 cases k with
 | act e m=>obtain ⟨⟨o,_,_,ho,_⟩,_⟩:=x;exact ⟨o,ho⟩
 | pin o=>exact ⟨o,x⟩
theorem zh2.keep {h h':Heap} {f:Fm} (x:zh2 h f) (k:∀ o,h.get? f.L=some o→h'.get? f.L=some o):zh2 h' f:=by
 obtain ⟨L,q⟩:=f
 cases q with
 | act e m=>obtain ⟨⟨o,es,ep,ho,r⟩,n2⟩:=x;exact ⟨⟨o,es,ep,k _ ho,r⟩,n2⟩
 | pin o=>exact k _ x
theorem Inv.has {κ:KK} {h:Heap} {fs:List Fm} {ρ:List (List Addr)} {μ:Mem} (I:Inv κ h fs ρ μ):∀ a∈ρ.flatten ++ fs.map (·.L),∃ o,h.get? a=some o:=by
 intro a ha
 rcases List.mem_append.mp ha with ha | ha
 ·obtain ⟨l,hl,hal⟩:=List.mem_flatten.mp ha
  obtain ⟨k,hk,rfl⟩:=List.getElem_of_mem hl
  have hk':k < μ.length:=I.len▸hk
  obtain ⟨l',hl',M⟩:=I.objs k _ (List.getElem?_eq_getElem hk')
  have e:ρ[k]=l':=by simpa [hk] using hl'
  rw [e] at hal
  exact M.has a hal
 ·obtain ⟨f,hf,rfl⟩:=List.mem_map.mp ha
  exact (I.ns f hf).has
theorem Inv.lt {κ:KK} {h:Heap} {fs:List Fm} {ρ:List (List Addr)} {μ:Mem} (I:Inv κ h fs ρ μ):∀ a∈ρ.flatten ++ fs.map (·.L),a < h.objs.size:=fun a ha=>let ⟨_,e⟩:=I.has a ha;Heap.lt_size e
theorem zh3.keep {κ:KK} {h h':Heap} {I J:SI} {row:Int} {what:List Nat} {e dx:Addr} {t:List Addr} (x:zh3 κ h I row what e dx t) (hk:∀ a∈e :: dx :: t,∀ ob,h.get? a=some ob→h'.get? a=some ob) (hIJ:∀ a ob,I a ob→J a ob):zh3 κ h' J row what e dx t:=
 ⟨x.ob.imp fun x_=>Exists.imp fun x_=>Exists.imp fun x_=>Exists.imp fun x_=>And.imp (hk _ (.head _) _) <| And.imp (hk _ (.tail _ (.head _)) _) <| And.imp id <| And.imp (zaC.mono hIJ) <| Or.imp id <| Exists.imp fun T=>Exists.imp fun x_=>Exists.imp fun _ ⟨e,h⟩=>⟨e,h.imp id <| And.imp (hk _ (.tail _ (.tail _ (e ▸ .head _))) _) id⟩⟩
theorem zcV.keep {κ:KK} {h h':Heap} {I J:SI} {o:MO} {l:List Addr} (M:zcV κ h I o l) (hk:∀ a∈l,∀ ob,h.get? a=some ob→h'.get? a=some ob) (hIJ:∀ a ob,I a ob→J a ob):zcV κ h' J o l:=
 zcV.casesOn (motive:=fun o l x_=>(∀ a∈l,∀ ob,h.get? a=some ob→h'.get? a=some ob)→zcV κ h' J o l) M (fun g b c hk=>.list (hk _ (.head _) _ g) b (c.mono hIJ)) (fun g z b c d hk=>.dcI (hk _ (.head _) _ g) z b c (d.mono hIJ))
  (fun g z b c d hk=>.dcS (hk _ (.head _) _ g) z b c (d.mono hIJ)) (fun g1 g2 b c d hk=>.inst (hk _ (.head _) _ g1) (hk _ (.tail _ (.head _)) _ g2) b (c.mono hIJ) d) (fun x hk=>.exc (x.keep hk hIJ)) (fun x_=>.dead) hk
theorem zbu {h:Heap} {a:Addr} (e:h.objs.size≤a):h.get? a=none:=by
 cases q:h.get? a with
 | none=>rfl
 | some o=>exact absurd (Heap.lt_size q) (Nat.not_lt.mpr e)
theorem Inv.funFrames {κ:KK} {h:Heap} {fs:List Fm} {ρ:List (List Addr)} {μ:Mem} (I:Inv κ h fs ρ μ):h.FunFrames κ.B (zod fs):=by
 have hs:=I.ns
 have hn:=I.newF
 clear I
 induction fs with
 | nil=>trivial
 | cons f fs ih=>
  have ih':=ih (fun f' hf'=>hs f' (by simp [hf'])) fun f' hf'=>hn f' (by simp [hf'])
  obtain ⟨L,k⟩:=f
  cases k with
  | pin o=>exact ih'
  | act e m=>
   obtain ⟨⟨o,es,ep,ho,hd,_⟩,b,c⟩:=hs ⟨L,.act e m⟩ (by simp)
   exact ⟨by rw [c];decide,⟨L,o,b,zbu (hn ⟨L,.act e m⟩ (by simp)),ho,fun vs q=>by rw [hd] at q;cases q⟩,ih'⟩
theorem RV.mono {w:World} {I J:SI} {ρ ρ':List (List Addr)} {v:V} {val:Value} (x:RV w I ρ v val) (hIJ:∀ a ob,I a ob→J a ob) (hρ:∀ (k:Nat) l,ρ[k]? = some l→ρ'[k]? = some l):RV w J ρ' v val:=by
 cases x with
 | d r=>exact .d (r.mono hIJ)
 | ref e=>exact .ref (hρ _ _ e)
theorem zik.mono {w:World} {sc:Scope} {cv:List (Str×Value)} {I J:SI} {ρ ρ':List (List Addr)} {σ:Loc} {m:Str→Option Value} (x:zik w sc cv I ρ σ m) (hIJ:∀ a ob,I a ob→J a ob) (hρ:∀ (k:Nat) l,ρ[k]? = some l→ρ'[k]? = some l):zik w sc cv J ρ' σ m:=
 fun i v hv=>(x i v hv).imp fun _=>Exists.imp fun _=>Exists.imp fun _=>And.imp id <| And.imp id fun c=>c.mono hIJ hρ
theorem zik.local {w:World} {sc:Scope} {cv:List (Str×Value)} {I:SI} {ρ:List (List Addr)} {σ:Loc} {m:Str→Option Value} (x:zik w sc cv I ρ σ m) {i:Nat} {y:Str} (hi:sc.names[i]? = some (y,NameKind.local)) {v:V} (hv:σ[i]? = some (some v)):∃ val,m y=some val∧RV w I ρ v val:=by
 obtain ⟨z,k,val,a,b,c⟩:=x i v hv
 rw [hi] at a
 cases a
 exact ⟨val,b,c⟩
theorem Inv.notMine {κ:KK} {h:Heap} {f:Fm} {fs:List Fm} {ρ:List (List Addr)} {μ:Mem} (I:Inv κ h (f :: fs) ρ μ):∀ a∈ρ.flatten ++ fs.map (·.L),a≠f.L:=by
 have hnd:=I.nodup
 intro a ha e
 subst e
 rw [List.map_cons,List.nodup_append] at hnd
 rcases List.mem_append.mp ha with ha | ha
 ·exact hnd.2.2 _ ha _ (List.mem_cons_self ..) rfl
 ·exact (List.nodup_cons.mp hnd.2.1).1 ha
theorem Inv.baseNot {κ:KK} {h:Heap} {fs:List Fm} {ρ:List (List Addr)} {μ:Mem} (I:Inv κ h fs ρ μ) {b:Addr} {o:Obj} (e:κ.B.get? b=some o):b∉ρ.flatten∧b∉fs.map (·.L):=
 ⟨fun q=>(by rw [I.new b q] at e;cases e),fun q=>(by obtain ⟨f,hf,rfl⟩:=List.mem_map.mp q;rw [zbu (I.newF f hf)] at e;cases e)⟩
theorem Inv.ext {κ:KK} {h h':Heap} {f f':Fm} {fs:List Fm} {ρ:List (List Addr)} {μ:Mem} (I:Inv κ h (f :: fs) ρ μ) (e:f'.L=f.L) (hx:Heap.ExtBut f.L h h') (hn:zh2 h' f'):Inv κ h' (f' :: fs) ρ μ:=by
 have hL:=I.notMine
 have hIm:∀ a o,Im h ρ ((f :: fs).map (·.L)) a o→Im h' ρ ((f' :: fs).map (·.L)) a o:=fun a o ⟨x,y,z⟩=>⟨hx a o (by simp at z;exact z.1) x,y,by rw [List.map_cons,e];exact z⟩
 refine ⟨fun b o e=>hx b o (fun q=>(I.baseNot e).2 (by simp [q])) (I.keep b o e),?_,by rw [List.map_cons,e];exact I.nodup,I.new,fun g hg=>(List.mem_cons.mp hg).elim (fun q=>by subst q;rw [e];exact I.newF f (by simp)) fun q=>I.newF g (by simp [q]),I.len,?_⟩
 ·intro g hg
  rcases List.mem_cons.mp hg with rfl | hg
  ·exact hn
  ·exact (I.ns g (by simp [hg])).keep fun o ho=>hx _ _ (hL _ (List.mem_append_right _ (List.mem_map_of_mem hg))) ho
 ·intro k o ho
  obtain ⟨l,hl,M⟩:=I.objs k o ho
  exact ⟨l,hl,M.keep (fun a ha ob e=>hx a ob (hL a (List.mem_append_left _ (List.mem_flatten.mpr ⟨l,List.mem_of_getElem? hl,ha⟩))) e) hIm⟩
theorem zbj.refl {s:Shared} {ρ:List (List Addr)}:zbj s ρ ρ:=⟨[],by simp,by simp⟩
theorem zbj.trans {s s':Shared} {ρ ρ' ρ'':List (List Addr)} (x:zbj s ρ ρ') (y:zbj s' ρ' ρ'') (h:zd9 s s'):zbj s ρ ρ'':=by
 obtain ⟨e,rfl,h1⟩:=x
 obtain ⟨e',rfl,h2⟩:=y
 refine ⟨e ++ e',by simp,fun a ha=>?_⟩
 rw [List.flatten_append] at ha
 rcases List.mem_append.mp ha with ha | ha
 ·exact h1 a ha
 ·exact h.none (h2 a ha)
theorem zbj.get {s:Shared} {ρ ρ':List (List Addr)} (x:zbj s ρ ρ'):∀ (k:Nat) l,ρ[k]? = some l→ρ'[k]? = some l:=by
 obtain ⟨e,rfl,_⟩:=x
 intro k l h
 have:k < ρ.length:=(List.getElem?_eq_some_iff.mp h).1
 rw [List.getElem?_append_left this];exact h
theorem zaG.refl {c:Cx} {ρ:List (List Addr)} {s:Shared}:zaG c ρ s s:=⟨fun x_ o e=>⟨o,e⟩,fun x_ x_ x=>x.1⟩
theorem zaG.im {c:Cx} {ρ ρ':List (List Addr)} {s s':Shared} (x:zaG c ρ s s') (y:zbj s ρ ρ'):∀ a o,Im s.heap ρ c.fr a o→Im s'.heap ρ' c.fr a o:=by
 obtain ⟨e,rfl,h1⟩:=y
 rintro a o ⟨p,q,r⟩
 refine ⟨x.2 a o ⟨p,q,r⟩,?_,r⟩
 rw [List.flatten_append]
 intro h
 rcases List.mem_append.mp h with h | h
 ·exact q h
 ·rw [h1 a h] at p;cases p
theorem zaG.trans {c:Cx} {ρ ρ':List (List Addr)} {s s' s'':Shared} (x:zaG c ρ s s') (m:zbj s ρ ρ') (y:zaG c ρ' s' s''):zaG c ρ s s'':=
 ⟨fun a o e=>let ⟨o',e'⟩:=x.1 a o e;y.1 a o' e',fun a o h=>y.2 a o (x.im m a o h)⟩
theorem Stt.fr {κ:KK} {c:Cx} {s:Shared} {σ:Loc} {ρ:List (List Addr)} {μ:Mem} {m:Str→Option Value} (S:Stt κ c s σ ρ μ m):Fr κ.B c.L s.heap m:=
 ⟨(S.inv.ns ⟨c.L,.act c.env m⟩ (by simp [Cx.fs])).1,S.inv.keep,S.inv.newF ⟨c.L,.act c.env m⟩ (by simp [Cx.fs])⟩
theorem Stt.ext {κ:KK} {c:Cx} {s s':Shared} {σ:Loc} {ρ:List (List Addr)} {μ:Mem} {m:Str→Option Value} (S:Stt κ c s σ ρ μ m) (hx:Heap.ExtBut c.L s.heap s'.heap) (hn:s'.heap.Ns c.L m)
  (hg:s'.gens=s.gens) (ho:s'.os=s.os):Stt κ c s' σ ρ μ m∧zaG c ρ s s':=by
 have hl:zaG c ρ s s':=by
  refine ⟨fun a o e=>?_,fun a o ⟨x,_,z⟩=>hx a o (by simp [Cx.fr] at z;exact z.1) x⟩
  by_cases q:a=c.L
  ·subst q;obtain ⟨o',_,_,h',_⟩:=hn;exact ⟨o',h'⟩
  ·exact ⟨o,hx a o q e⟩
 have hk:c.env.scope.kind = .function:=(S.inv.ns ⟨c.L,.act c.env m⟩ (by simp [Cx.fs])).2.2
 exact ⟨⟨S.inv.ext (f:=⟨c.L,.act c.env m⟩) (f':=⟨c.L,.act c.env m⟩) rfl hx ⟨hn,rfl,hk⟩,S.loc.mono (hl.im .refl) fun x_ x_ e=>e,S.nb,hg.trans S.gens,ho.trans S.os⟩,hl⟩
theorem Stt.keeps {κ:KK} {c:Cx} {s s':Shared} {σ:Loc} {ρ:List (List Addr)} {μ:Mem} {m:Str→Option Value} (S:Stt κ c s σ ρ μ m) (hx:∀ b o,s.heap.get? b=some o→s'.heap.get? b=some o)
  (hg:s'.gens=s.gens:=by rfl) (ho:s'.os=s.os:=by rfl):Stt κ c s' σ ρ μ m∧zaG c ρ s s':=
 S.ext (fun b o x_ e=>hx b o e) (S.fr.ns.keeps hx) hg ho
structure zea (c:Cx) (s:Shared) (ρ ρ':List (List Addr)):Prop where
 low:∀ k,k < c.nb→ρ'[k]? = ρ[k]?
 new:∀ a∈ρ'.flatten,a∈ρ.flatten∨s.heap.get? a=none
theorem zea.refl {c:Cx} {s:Shared} {ρ:List (List Addr)}:zea c s ρ ρ:=⟨fun x_ x_=>rfl,fun x_ h=>.inl h⟩
theorem zbj.grow {c:Cx} {s:Shared} {ρ ρ':List (List Addr)} (x:zbj s ρ ρ') (h:c.nb≤ρ.length):zea c s ρ ρ':=by
 obtain ⟨e,rfl,h1⟩:=x
 refine ⟨fun k hk=>List.getElem?_append_left (by lia),fun a ha=>?_⟩
 rw [List.flatten_append] at ha
 rcases List.mem_append.mp ha with ha | ha
 ·exact .inl ha
 ·exact .inr (h1 a ha)
theorem zea.trans {c:Cx} {s s':Shared} {ρ ρ' ρ'':List (List Addr)} (x:zea c s ρ ρ') (y:zea c s' ρ' ρ'') (h:zd9 s s'):zea c s ρ ρ'':=
 ⟨fun k hk=>(y.low k hk).trans (x.low k hk),fun a ha=>(y.new a ha).elim (x.new a) fun q=>.inr (h.none q)⟩
theorem zaG.imG {c:Cx} {ρ ρ':List (List Addr)} {s s':Shared} (x:zaG c ρ s s') (y:zea c s ρ ρ'):∀ a o,Im s.heap ρ c.fr a o→Im s'.heap ρ' c.fr a o:=by
 rintro a o ⟨p,q,r⟩
 refine ⟨x.2 a o ⟨p,q,r⟩,fun h=>?_,r⟩
 rcases y.new a h with h | h
 ·exact q h
 ·rw [h] at p;cases p
theorem zaG.transG {c:Cx} {ρ ρ':List (List Addr)} {s s' s'':Shared} (x:zaG c ρ s s') (m:zea c s ρ ρ') (y:zaG c ρ' s' s''):zaG c ρ s s'':=
 ⟨fun a o e=>let ⟨o',e'⟩:=x.1 a o e;y.1 a o' e',fun a o h=>y.2 a o (x.imG m a o h)⟩
theorem Stt.nbρ {κ:KK} {c:Cx} {s:Shared} {σ:Loc} {ρ:List (List Addr)} {μ:Mem} {m:Str→Option Value} (S:Stt κ c s σ ρ μ m):c.nb≤ρ.length:=by rw [S.inv.len];exact S.nb
theorem Stt.forget {κ:KK} {c:Cx} {s:Shared} {σ:Loc} {ρ:List (List Addr)} {μ:Mem} {m:Str→Option Value} (S:Stt κ c s σ ρ μ m):Stt κ c s [] ρ μ m:=
 ⟨S.inv,fun i v h=>by simp at h,S.nb,S.gens,S.os⟩
noncomputable abbrev EF:=Loc→Mem→RE
noncomputable abbrev TF:=Loc→Mem→RX Bool
noncomputable def MO.val (o:MO):Option D:=MO.casesOn (motive:=fun _=>Option D) o (fun ds=>some (.lst ds)) (fun kvs=>some (.dcI kvs)) (fun kvs=>some (.dcS kvs)) (fun _=>none) (fun _ _=>none) none
noncomputable def res (μ:Mem) (v:V):Option D:=V.casesOn (motive:=fun _=>Option D) v some fun k=>μ[k]?.bind MO.val
theorem zbe {α:Type} {x:α} {P:Prop} (h:Option.none=some x):P:=nomatch h
noncomputable def D.gI (d:D):Option (Int):=D.casesOn (motive_1:=fun _=>Option (Int)) d Option.none (fun _=>Option.none) Option.some (fun _=>Option.none) (fun _=>Option.none) (fun _=>Option.none) (fun _=>Option.none) (fun _=>Option.none) (fun _=>Option.none)
theorem D.gI_s {d:D} {x:Int} (h:d.gI=some x):d = .int x:=D.casesOn (motive_1:=fun d=>d.gI=some x→d = .int x) d zbe (fun _=>zbe) (fun _ e=>congrArg D.int (Option.some.inj e)) (fun _=>zbe) (fun _=>zbe) (fun _=>zbe) (fun _=>zbe) (fun _=>zbe) (fun _=>zbe) h
noncomputable def D.gS (d:D):Option (List Nat):=D.casesOn (motive_1:=fun _=>Option (List Nat)) d Option.none (fun _=>Option.none) (fun _=>Option.none) Option.some (fun _=>Option.none) (fun _=>Option.none) (fun _=>Option.none) (fun _=>Option.none) (fun _=>Option.none)
theorem D.gS_s {d:D} {x:List Nat} (h:d.gS=some x):d = .str x:=D.casesOn (motive_1:=fun d=>d.gS=some x→d = .str x) d zbe (fun _=>zbe) (fun _=>zbe) (fun _ e=>congrArg D.str (Option.some.inj e)) (fun _=>zbe) (fun _=>zbe) (fun _=>zbe) (fun _=>zbe) (fun _=>zbe) h
noncomputable def D.gL (d:D):Option (List D):=D.casesOn (motive_1:=fun _=>Option (List D)) d Option.none (fun _=>Option.none) (fun _=>Option.none) (fun _=>Option.none) (fun _=>Option.none) Option.some (fun _=>Option.none) (fun _=>Option.none) (fun _=>Option.none)
theorem D.gL_s {d:D} {x:List D} (h:d.gL=some x):d = .lst x:=D.casesOn (motive_1:=fun d=>d.gL=some x→d = .lst x) d zbe (fun _=>zbe) (fun _=>zbe) (fun _=>zbe) (fun _=>zbe) (fun _ e=>congrArg D.lst (Option.some.inj e)) (fun _=>zbe) (fun _=>zbe) (fun _=>zbe) h
noncomputable def V.gD (v:V):Option D:=V.casesOn (motive:=fun _=>Option D) v some fun _=>none
noncomputable def V.gR (v:V):Option Nat:=V.casesOn (motive:=fun _=>Option Nat) v (fun _=>none) some
theorem V.gD_s {v:V} {x:D} (h:v.gD=some x):v = .d x:=V.casesOn (motive:=fun v=>v.gD=some x→v = .d x) v (fun _ e=>congrArg V.d (Option.some.inj e)) (fun _=>zbe) h
theorem V.gR_s {v:V} {x:Nat} (h:v.gR=some x):v = .ref x:=V.casesOn (motive:=fun v=>v.gR=some x→v = .ref x) v (fun _=>zbe) (fun _ e=>congrArg V.ref (Option.some.inj e)) h
noncomputable def V.gI (v:V):Option Int:=v.gD.bind D.gI
noncomputable def V.gS (v:V):Option (List Nat):=v.gD.bind D.gS
theorem V.gI_s {v:V} {x:Int} (h:v.gI=some x):v = .d (.int x):=(Option.bind_eq_some_iff.mp h).elim fun _ h=>(V.gD_s h.1).trans (congrArg V.d (D.gI_s h.2))
theorem V.gS_s {v:V} {x:List Nat} (h:v.gS=some x):v = .d (.str x):=(Option.bind_eq_some_iff.mp h).elim fun _ h=>(V.gD_s h.1).trans (congrArg V.d (D.gS_s h.2))
noncomputable def MO.gL (o:MO):Option (List D):=MO.casesOn (motive:=fun _=>Option (List D)) o some (fun _=>none) (fun _=>none) (fun _=>none) (fun _ _=>none) none
noncomputable def MO.gN (o:MO):Option (List D):=MO.casesOn (motive:=fun _=>Option (List D)) o (fun _=>none) (fun _=>none) (fun _=>none) some (fun _ _=>none) none
theorem MO.gL_s {o:MO} {x:List D} (h:o.gL=some x):o = .list x:=MO.casesOn (motive:=fun o=>o.gL=some x→o = .list x) o (fun _ e=>congrArg MO.list (Option.some.inj e)) (fun _=>zbe) (fun _=>zbe) (fun _=>zbe) (fun _ _=>zbe) zbe h
theorem MO.gN_s {o:MO} {x:List D} (h:o.gN=some x):o = .inst x:=MO.casesOn (motive:=fun o=>o.gN=some x→o = .inst x) o (fun _=>zbe) (fun _=>zbe) (fun _=>zbe) (fun _ e=>congrArg MO.inst (Option.some.inj e)) (fun _ _=>zbe) zbe h
noncomputable def atL (μ:Mem) (k:Nat):Option (List D):=μ[k]?.bind MO.gL
noncomputable def atN (μ:Mem) (k:Nat):Option (List D):=μ[k]?.bind MO.gN
theorem znV {μ:Mem} {k:Nat} {x:List D} (h:atL μ k=some x):μ[k]? = some (.list x):=(Option.bind_eq_some_iff.mp h).elim fun _ h=>h.1.trans (congrArg some (MO.gL_s h.2))
theorem znW {μ:Mem} {k:Nat} {x:List D} (h:atN μ k=some x):μ[k]? = some (.inst x):=(Option.bind_eq_some_iff.mp h).elim fun _ h=>h.1.trans (congrArg some (MO.gN_s h.2))
theorem znX {μ:Mem} {k:Nat} {x:List D} (h:μ[k]? = some (.list x)):atL μ k=some x:=by unfold atL;rw [h];rfl
theorem znY {μ:Mem} {k:Nat} {x:List D} (h:μ[k]? = some (.inst x)):atN μ k=some x:=by unfold atN;rw [h];rfl
theorem zzJ {o:Option (Option V)} {a:Int} (h:o.join.bind V.gI=some a):o=some (some (.d (.int a))):=(Option.bind_eq_some_iff.mp h).elim fun _ h=>(Option.join_eq_some_iff.mp h.1).trans (congrArg (fun v=>some (some v)) (V.gI_s h.2))
theorem zzK {o:Option (Option V)} {a:Nat} (h:o.join.bind V.gR=some a):o=some (some (.ref a)):=(Option.bind_eq_some_iff.mp h).elim fun _ h=>(Option.join_eq_some_iff.mp h.1).trans (congrArg (fun v=>some (some v)) (V.gR_s h.2))
theorem itI {o:Option D} {a:Int} (h:o.bind D.gI=some a):o=some (.int a):=(Option.bind_eq_some_iff.mp h).elim fun _ h=>h.1.trans (congrArg some (D.gI_s h.2))
theorem vL {v:V} {a:List D} (h:v.gD.bind D.gL=some a):v = .d (.lst a):=(Option.bind_eq_some_iff.mp h).elim fun _ h=>(V.gD_s h.1).trans (congrArg V.d (D.gL_s h.2))
noncomputable def Xn.mo:Xn→MO
 | .asm r w=>.exc r w
noncomputable def za6 (κ:KK) (c:Cx) (s:Shared) (ρ:List (List Addr)) (E:Value→Shared→Prop) {α:Type} (r:RX α) (K:α→Mem→Prop):Prop:=match r with
 | .ok v μ'=>K v μ'
 | .exc x μ'=>∀ s' ρ' m' a fp,Stt κ c s' [] (ρ' ++ [a :: fp]) (μ' ++ [x.mo]) m'→zaG c ρ s s'→zea c s ρ (ρ' ++ [a :: fp])→c.nb≤μ'.length→E (.ref a) s'
 | .stuck=>False
theorem zbr {κ:KK} {c:Cx} {s:Shared} {ρ:List (List Addr)} {E:Value→Shared→Prop} {α β:Type} {o:Option β} {f:β→RX α} {K:α→Mem→Prop} (h:za6 κ c s ρ E (o.elim .stuck f) K):∃ x,o=some x∧za6 κ c s ρ E (f x) K:=
 Option.casesOn (motive:=fun o=>za6 κ c s ρ E (o.elim .stuck f) K→∃ x,o=some x∧za6 κ c s ρ E (f x) K) o (fun h=>h.elim) (fun x h=>⟨x,rfl,h⟩) h
theorem zgk {κ:KK} {c:Cx} {s:Shared} {ρ:List (List Addr)} {E:Value→Shared→Prop} {α:Type} {p:Prop} [Decidable p] {r:RX α} {K:α→Mem→Prop} (h:za6 κ c s ρ E (if p then r else .stuck) K):p∧za6 κ c s ρ E r K:=
 if q:p then ⟨q,by rwa [if_pos q] at h⟩ else by rw [if_neg q] at h;exact h.elim
theorem za6.later {κ:KK} {c:Cx} {s s₀:Shared} {ρ ρ₀:List (List Addr)} {E:Value→Shared→Prop} {α β:Type} {r:RX α} {G:α→Mem→RX β} {K:β→Mem→Prop} {K':α→Mem→Prop}
  (l:zaG c ρ₀ s₀ s) (g:zea c s₀ ρ₀ ρ) (h:za6 κ c s₀ ρ₀ E (r.bind G) K) (k:∀ v μ,za6 κ c s₀ ρ₀ E (G v μ) K→K' v μ):za6 κ c s ρ E r K':=by
 cases r with
 | ok v μ=>exact k v μ h
 | exc x μ=>exact fun s' ρ' m' a fp S' l' g' e=>h s' ρ' m' a fp S' (l.transG g l') (g.trans g' l.1) e
 | stuck=>exact h
noncomputable abbrev zfP (κ:KK) (c:Cx) (s:Shared) (ρ:List (List Addr)) (σ:Loc) (m:Str→Option Value) (Q:Value→Shared→Prop):V→Mem→Prop:=fun v μ'=>
 ∀ s' ρ' val,Stt κ c s' σ ρ' μ' m→zaG c ρ s s'→zbj s ρ ρ'→RV κ.w (Im s'.heap ρ' c.fr) ρ' v val→Q val s'
noncomputable abbrev zlb (κ:KK) (c:Cx) (s:Shared) (ρ:List (List Addr)) (σ:Loc) (m:Str→Option Value) (Q:Bool→Shared→Prop):Bool→Mem→Prop:=fun b μ'=>
 ∀ s' ρ',Stt κ c s' σ ρ' μ' m→zaG c ρ s s'→zbj s ρ ρ'→Q b s'
structure SE (κ:KK) (n:Nat) (sc:Scope) (e:Expr) (F:EF):Prop where
 run:∀ c,c.sc=sc→zbx n c→∀ σ μ ρ m s Q E,Stt κ c s σ ρ μ m→za6 κ c s ρ E (F σ μ) (zfP κ c s ρ σ m Q)→wpAny (model pg κ.w) c.A (eval e c.env) Q E s
structure ST (κ:KK) (n:Nat) (sc:Scope) (e:Expr) (F:TF):Prop where
 run:∀ c,c.sc=sc→zbx n c→∀ σ μ ρ m s Q E,Stt κ c s σ ρ μ m→za6 κ c s ρ E (F σ μ) (zlb κ c s ρ σ m Q)→wpAny (model pg κ.w) c.A (isTrue e c.env (eval e c.env)) Q E s
theorem RV.d_inv {w:World} {I:SI} {ρ:List (List Addr)} {x:D} {val:Value} (h:RV w I ρ (.d x) val):Rd w I x val:=h.inv
theorem Rd.int_inv {w:World} {I:SI} {i:Int} {v:Value} (h:Rd w I (.int i) v):∃ t,v = .int i t:=h.inv (J:=I) fun _ _ x=>x
theorem Rd.str_inv {w:World} {I:SI} {x:List Nat} {v:Value} (h:Rd w I (.str x) v):∃ t,v = .str (Mine.Internal.str x) t:=h.inv (J:=I) fun _ _ x=>x
theorem Rd.bool_inv {w:World} {I:SI} {b:Bool} {v:Value} (h:Rd w I (.bool b) v):v = .bool b:=h.inv (J:=I) fun _ _ x=>x
theorem SE.next {κ:KK} {n:Nat} {sc:Scope} {e:Expr} {F:EF} (x:SE κ n sc e F) {c:Cx} (hc:c.sc=sc) (ok:zbx n c) {σ:Loc} {μ:Mem} {ρ:List (List Addr)} {m:Str→Option Value} {s:Shared} {Q:Value→Shared→Prop} {E:Value→Shared→Prop} {s₀:Shared} {ρ₀:List (List Addr)}
  (S:Stt κ c s σ ρ μ m) (l:zaG c ρ₀ s₀ s) (g:zbj s₀ ρ₀ ρ) (hn:c.nb≤ρ₀.length) {β:Type} {G:V→Mem→RX β} {K:β→Mem→Prop} (h:za6 κ c s₀ ρ₀ E ((F σ μ).bind G) K)
  (k:∀ v μ' s' ρ' val,Stt κ c s' σ ρ' μ' m→zaG c ρ₀ s₀ s'→zbj s₀ ρ₀ ρ'→(∀ a o,Im s.heap ρ c.fr a o→Im s'.heap ρ' c.fr a o)→(∀ (k:Nat) l,ρ[k]? = some l→ρ'[k]? = some l)→RV κ.w (Im s'.heap ρ' c.fr) ρ' v val→za6 κ c s₀ ρ₀ E (G v μ') K→Q val s') :
  wpAny (model pg κ.w) c.A (eval e c.env) Q E s:=
 x.run c hc ok σ μ ρ m s Q E S (za6.later l (g.grow hn) h fun v μ' H s' ρ' val S' l' g' r=>k v μ' s' ρ' val S' (l.trans g l') (g.trans g' l.1) (l'.im g') g'.get r H)
theorem ST.next {κ:KK} {n:Nat} {sc:Scope} {e:Expr} {F:TF} (x:ST κ n sc e F) {c:Cx} (hc:c.sc=sc) (ok:zbx n c) {σ:Loc} {μ:Mem} {ρ:List (List Addr)} {m:Str→Option Value} {s:Shared} {Q:Bool→Shared→Prop} {E:Value→Shared→Prop} {s₀:Shared} {ρ₀:List (List Addr)}
  (S:Stt κ c s σ ρ μ m) (l:zaG c ρ₀ s₀ s) (g:zbj s₀ ρ₀ ρ) (hn:c.nb≤ρ₀.length) {β:Type} {G:Bool→Mem→RX β} {K:β→Mem→Prop} (h:za6 κ c s₀ ρ₀ E ((F σ μ).bind G) K)
  (k:∀ b μ' s' ρ',Stt κ c s' σ ρ' μ' m→zaG c ρ₀ s₀ s'→zbj s₀ ρ₀ ρ'→za6 κ c s₀ ρ₀ E (G b μ') K→Q b s') :
  wpAny (model pg κ.w) c.A (isTrue e c.env (eval e c.env)) Q E s:=
 x.run c hc ok σ μ ρ m s Q E S (za6.later l (g.grow hn) h fun v μ' H s' ρ' S' l' g'=>k v μ' s' ρ' S' (l.trans g l') (g.trans g' l.1) H)
theorem RX.bind_ok {α:Type} (r:RX α):r.bind .ok=r:=by cases r <;> rfl
theorem SE.last {κ:KK} {n:Nat} {sc:Scope} {e:Expr} {F:EF} (x:SE κ n sc e F) {c:Cx} (hc:c.sc=sc) (ok:zbx n c) {σ:Loc} {μ:Mem} {ρ:List (List Addr)} {m:Str→Option Value} {s:Shared} {Q:Value→Shared→Prop} {E:Value→Shared→Prop} {s₀:Shared} {ρ₀:List (List Addr)}
  (S:Stt κ c s σ ρ μ m) (l:zaG c ρ₀ s₀ s) (g:zbj s₀ ρ₀ ρ) (hn:c.nb≤ρ₀.length) (h:za6 κ c s₀ ρ₀ E (F σ μ) (zfP κ c s₀ ρ₀ σ m Q)):wpAny (model pg κ.w) c.A (eval e c.env) Q E s:=
 x.next hc ok S l g hn (G:=.ok) (K:=zfP κ c s₀ ρ₀ σ m Q) (by rw [RX.bind_ok];exact h) fun v μ' s' ρ' val S' l' g' x_ x_ r H=>H s' ρ' val S' l' g' r
noncomputable def cst:Const→Option D
 | .none=>some .none
 | .bool b=>some (.bool b)
 | .int i=>some (.int i)
 | .str x=>some (.str x.cps.toList)
 | _=>none
noncomputable def zac (x:D):EF:=fun x_ μ=>.ok (.d x) μ
theorem zdx (x:Str):Mine.Internal.str x.cps.toList=x:=by cases x;simp [Mine.Internal.str]
theorem zoe {κ:KK} {n:Nat} {sc:Scope} {k:Const} {i:Nat} {pos:Pos} {x:D} (h:cst k=some x):SE κ n sc (.Constant k i pos) (zac x):=by
 refine ⟨?_⟩
 intro c _ _ σ μ ρ m s Q E S H
 cases k with
 | none=>cases h;exact wpAny_Constant_none (H s ρ _ S .refl .refl (.d .none))
 | bool b=>cases h;exact wpAny_Constant_bool (H s ρ _ S .refl .refl (.d (.bool b)))
 | int i=>
  cases h
  have:=S.keeps (s':={ s with toks:=s.toks+1 }) (fun x_ x_ e=>e)
  exact wpAny_Constant_int (H _ ρ _ this.1 this.2 .refl (.d (.int i _)))
 | str x=>
  cases h
  have:=S.keeps (s':={ s with toks:=s.toks+1 }) (fun x_ x_ e=>e)
  refine wpAny_Constant_str (H _ ρ _ this.1 this.2 .refl (.d ?_))
  have r:=Rd.str (w:=κ.w) (I:=Im s.heap ρ c.fr) x.cps.toList s.toks
  rw [zdx] at r;exact r
 | _=>cases h
noncomputable def zae (i:Nat):EF:=fun σ μ=>match σ[i]? with
 | some (some v)=>.ok v μ
 | _=>.stuck
theorem zfQ {c:Cx} {x:Str} (h:c.sc.names.lookup x=some .local):c.env.kindOf x=some .local:=h
theorem ztP {M:Model} {A:Around} {E:Value→Shared→Prop} {B:Heap} {s:Shared} {c:Cx} {m:Str→Option Value} {x:Str} {v:Value} {Q:Value→Shared→Prop} (F:Fr B c.L s.heap m) (hv:m x=some v) (h:Q v s) (hk:c.sc.kind = .function) (hl:c.env.kindOf x=some .local) :
  wpAny M A (loadName c.env x) Q E s:=wpAny_loadName_local (env:=c.env) hk hl F.ns hv h
theorem ldE {M:Model} {A:Around} {E:Value→Shared→Prop} {B:Heap} {s:Shared} {c:Cx} {m:Str→Option Value} {x:Str} {pos:Pos} {v:Value} {Q:Value→Shared→Prop} (F:Fr B c.L s.heap m) (hv:m x=some v) (h:Q v s) (hk:c.sc.kind = .function) (hl:c.env.kindOf x=some .local)
  (hd:(x == ("__debug__":Str))=false):wpAny M A (eval (.Name x pos) c.env) Q E s:=wpAny_Name (ztP F hv h hk hl) hd
theorem ldG {M:Model} {A:Around} {E:Value→Shared→Prop} {B:Heap} {s:Shared} {c:Cx} {m mg:Str→Option Value} {x:Str} {pos:Pos} {v:Value} {Q:Value→Shared→Prop} (F:Fr B c.L s.heap m) (hg:B.Ns mainGlobals mg) (hb:mg x=some v) (h:Q v s) (hk:c.sc.kind = .function)
  (hx:c.sc.names.lookup x=some .globalImplicit) (hd:(x == ("__debug__":Str))=false):wpAny M A (eval (.Name x pos) c.env) Q E s:=
 Calls.Name_function_global (env:=c.env) hk hx (Calls.loadGlobal_global (env:=c.env) (hg.keeps F.keep) hb h) hd
theorem ldB {M:Model} {A:Around} {E:Value→Shared→Prop} {B:Heap} {s:Shared} {c:Cx} {m mg mb:Str→Option Value} {x:Str} {pos:Pos} {v:Value} {Q:Value→Shared→Prop} (F:Fr B c.L s.heap m) (hg:B.Ns mainGlobals mg) (hm:mg x=none) (hb:B.Ns builtinsNs mb) (hv:mb x=some v) (h:Q v s) (hk:c.sc.kind = .function)
  (hx:c.sc.names.lookup x=some .globalImplicit) (hd:(x == ("__debug__":Str))=false):wpAny M A (eval (.Name x pos) c.env) Q E s:=
 Calls.Name_function_global (env:=c.env) hk hx (Calls.loadGlobal_builtin (env:=c.env) (hg.keeps F.keep) hm (hb.keeps F.keep) hv h) hd
theorem zbq {l:List (Str×NameKind)} {i:Nat} {x:Str} {k:NameKind} (hn:(l.map (·.1)).Nodup) (h:l[i]? = some (x,k)):l.lookup x=some k:=by
 induction l generalizing i with
 | nil=>exact zbe h
 | cons y l ih=>
  obtain ⟨y,q⟩:=y
  rw [List.lookup_cons]
  cases i with
  | zero=>cases h;rw [beq_self_eq_true]
  | succ i=>
   obtain ⟨h1,h2⟩:=List.nodup_cons.mp hn
   rw [beq_false_of_ne fun e=>h1 (List.mem_map.mpr ⟨(x,k),List.mem_of_getElem? h,e⟩)]
   exact ih h2 h
set_option tactic.hygienic true in
theorem zsa {κ:KK} {n:Nat} {sc:Scope} {x:Str} {i:Nat} {pos:Pos} (h:sc.names[i]? = some (x,NameKind.local)) (hd:(x == ("__debug__":Str))=false):SE κ n sc (.Name x pos) (zae i):=by
 refine ⟨?_⟩
 rintro c rfl ok σ μ ρ m s Q E S H
 unfold zae at H
 split at H
 ·rename_i v hv
  obtain ⟨val,hm,r⟩:=S.loc.local h hv
  exact ldE S.fr hm (H s ρ val S .refl .refl r) ok.kind (zfQ (zbq ok.names h)) hd
 ·exact H.elim
set_option tactic.hygienic true in
theorem zvC {κ:KK} {n:Nat} {sc:Scope} {x:Str} {i:Nat} {pos:Pos} (h:sc.names[i]? = some (x,NameKind.cell)) (hd:(x == ("__debug__":Str))=false) (hl:sc.names.lookup x=some .cell):SE κ n sc (.Name x pos) (zae i):=by
 refine ⟨?_⟩
 rintro c rfl ok σ μ ρ m s Q E S H
 unfold zae at H
 split at H
 ·rename_i v hv
  obtain ⟨y,k,val,hy,hm,r⟩:=S.loc i v hv
  rw [h] at hy
  cases hy
  obtain ⟨ca,o,h1,h2,h3⟩:=ok.cells x val hm
  have hp:s.heap.get? ca=some o:=S.inv.ns ⟨ca,.pin o⟩ (List.mem_cons_of_mem _ h2)
  exact wpAny_Name (wpAny_loadName_cell (env:=c.env) ok.kind hl h1 ⟨o,hp,h3⟩ (H s ρ val S .refl .refl r)) hd
 ·exact H.elim
noncomputable def ofO (o:Option D) (μ:Mem):RE:=match o with
 | some x=>.ok (.d x) μ
 | none=>.stuck
inductive Vw (w:World) (h:Heap) (I:SI):D→Value→Prop
 | rd {x v}:Rd w I x v→Vw w h I x v
 | lst {a o vs ds}:h.get? a=some o→zk9 "list" o vs→zaC w I ds vs→Vw w h I (.lst ds) (.ref a)
 | dcI {a o} {kvs:List (Int×D)} {kws:List (Int×Value)}:h.get? a=some o→(a == sysModules)=false→ze5 (intKind pg w) o kws→kws.map (·.1)=kvs.map (·.1)→zaC w I (kvs.map (·.2)) (kws.map (·.2))→Vw w h I (.dcI kvs) (.ref a)
 | dcS {a o} {kvs:List (List Nat×D)} {kws:List (Str×Value)}:h.get? a=some o→(a == sysModules)=false→ze5 (PySem.strKind pg w) o kws→kws.map (·.1)=kvs.map (fun p=>Mine.Internal.str p.1)→zaC w I (kvs.map (·.2)) (kws.map (·.2))→Vw w h I (.dcS kvs) (.ref a)
theorem Vw.inv {w:World} {h:Heap} {I J:SI} {x:D} {v:Value} (r:Vw w h I x v) (hI:∀ a o,I a o→J a o) (hh:∀ a o,h.get? a=some o→J a o):RdI w I J v x:=
 Vw.casesOn (motive:=fun x v _=>RdI w I J v x) r (Rd.inv hI) (fun a b c=>⟨_,_,_,rfl,hh _ _ a,b,c⟩) (fun a z b c d=>⟨_,_,_,rfl,hh _ _ a,z,b,c,d⟩) (fun a z b c d=>⟨_,_,_,rfl,hh _ _ a,z,b,c,d⟩)
theorem Vw.inv0 {w:World} {h:Heap} {I:SI} {x:D} {v:Value} (r:Vw w h I x v):RdI w I (fun _ _=>True) v x:=r.inv (fun _ _ _=>trivial) fun _ _ _=>trivial
theorem Vw.invH {w:World} {h:Heap} {I:SI} {x:D} {v:Value} (r:Vw w h I x v) (hI:∀ a o,I a o→h.get? a=some o):RdI w I (fun a o=>h.get? a=some o) v x:=r.inv hI fun _ _ x=>x
theorem zcV.vw {κ:KK} {h:Heap} {I:SI} {a:Addr} {l:List Addr} {o:MO} (M:zcV κ h I o (a :: l)) {x:D} (e:o.val=some x):Vw κ.w h I x (.ref a):=
 zcV.casesOn (motive:=fun o l' _=>l' = a :: l→o.val=some x→Vw κ.w h I x (.ref a)) M
  (fun g b c q e=>Option.some.inj e▸(List.cons.inj q).1 ▸ .lst g b c) (fun g z b c d q e=>Option.some.inj e▸(List.cons.inj q).1 ▸ .dcI g z b c d) (fun g z b c d q e=>Option.some.inj e▸(List.cons.inj q).1 ▸ .dcS g z b c d)
  (fun _ _ _ _ _ _ e=>nomatch e) (fun _ _ e=>nomatch e) (fun _ e=>nomatch e) rfl e
theorem Vw.toRd {w:World} {h:Heap} {I J:SI} {a:Addr} {x:D} (r:Vw w h I x (.ref a)) (hI:∀ a o,I a o→J a o) (ha:∀ o,h.get? a=some o→J a o):Rd w J x (.ref a):=
 Vw.casesOn (motive:=fun x v _=>(∀ b o,v = .ref b→h.get? b=some o→J b o)→Rd w J x v) r (fun r _=>r.mono hI) (fun g b c f=>.lst (f _ _ rfl g) b (c.mono hI)) (fun g z b c d f=>.dcI (f _ _ rfl g) z b c (d.mono hI))
  (fun g z b c d f=>.dcS (f _ _ rfl g) z b c (d.mono hI)) fun _ _ e=>Value.ref.inj e▸ha _
theorem RV.view {κ:KK} {c:Cx} {s:Shared} {σ:Loc} {ρ:List (List Addr)} {μ:Mem} {m:Str→Option Value} (S:Stt κ c s σ ρ μ m) {v:V} {val:Value} (r:RV κ.w (Im s.heap ρ c.fr) ρ v val) {x:D} (h:res μ v=some x) :
  Vw κ.w s.heap (Im s.heap ρ c.fr) x val:=by
 obtain x' | k:=v
 ·cases h;exact .rd r.inv
 ·obtain ⟨a,l,rfl,e⟩:=r.inv
  obtain ⟨o,hm,ho⟩:=Option.bind_eq_some_iff.mp h
  obtain ⟨l',hl',M⟩:=S.inv.objs _ _ hm
  cases e.symm.trans hl'
  exact M.vw ho
noncomputable def zlI (s s':Shared):Prop:=(∀ b o,s.heap.get? b=some o→s'.heap.get? b=some o)∧s'.gens=s.gens∧s'.os=s.os
theorem zlI.tok {s:Shared} {t:Nat}:zlI s { s with toks:=t }:=⟨fun x_ x_ e=>e,rfl,rfl⟩
theorem zlI.refl {s:Shared}:zlI s s:=⟨fun x_ x_ e=>e,rfl,rfl⟩
structure zdQ (A:Around) (s:Shared) (I:SI):Prop where
 units:A.units+100≤9900
 handled:A.handled=none
 lim:s.heap.NoLimit
 here:∀ a o,I a o→s.heap.get? a=some o
noncomputable def zbC (w:World) (s:Shared) (I:SI) (z:D) (Q:Value→Shared→Prop):Prop:=
 ∀ s' v,zlI s s'→(∀ J:SI,(∀ a o,I a o→J a o)→(∀ a o,s.heap.get? a=none→s'.heap.get? a=some o→J a o)→Rd w J z v)→Q v s'
theorem zbC.int {w:World} {s:Shared} {I:SI} {i:Int} {Q:Value→Shared→Prop} {t u:Nat} (h:zbC w s I (.int i) Q):Q (.int i t) { s with toks:=u }:=h _ _ .tok fun x_ x_ x_=>.int i t
theorem zbC.str {w:World} {s:Shared} {I:SI} {x:List Nat} {Q:Value→Shared→Prop} {t u:Nat} (h:zbC w s I (.str x) Q):Q (.str (Mine.Internal.str x) t) { s with toks:=u }:=h _ _ .tok fun x_ x_ x_=>.str x t
theorem zbC.bool {w:World} {s:Shared} {I:SI} {b:Bool} {Q:Value→Shared→Prop} {u:Nat} (h:zbC w s I (.bool b) Q):Q (.bool b) { s with toks:=u }:=h _ _ .tok fun x_ x_ x_=>.bool b
theorem zbC.new {w:World} {s:Shared} {I:SI} {z:D} {Q:Value→Shared→Prop} (h:zbC w s I z Q) {o:Obj} {u:Nat} (ho:o.isFreed=false) (r:∀ J:SI,(∀ a o,I a o→J a o)→J s.heap.objs.size o→Rd w J z (.ref s.heap.objs.size)) :
  Q (.ref s.heap.objs.size) { s with heap:=s.heap.push o,toks:=u }:=
 h _ _ ⟨fun x_ x_ e=>Heap.get?_push_of_some _ e,rfl,rfl⟩ fun J a b=>r J a (b _ _ (zbu (Nat.le_refl _)) (Heap.get?_push_size _ ho))
structure zhL (w:World) (bop:Operator) (op:D→D→Option D):Prop where
 run:∀ x y z,op x y=some z→∀ (A:Around) (s:Shared) (I:SI) (a b:Value) (Q E:Value→Shared→Prop),zdQ A s I→
 Vw w s.heap I x a→Vw w s.heap I y b→zbC w s I z Q→wpAny (model pg w) A (binaryOp bop a b) Q E s
noncomputable def D.ifI {α:Type} (d:D) (f:Int→Option α) (r:Option α):Option α:=match d with
 | .int x=>f x
 | _=>r
theorem D.orI {α:Type} {d:D} {f:Int→Option α} {r:Option α} {z:α} (h:d.ifI f r=some z):(∃ x,d = .int x∧f x=some z)∨r=some z:=by
 cases d <;> first | exact .inr h | exact .inl ⟨_,rfl,h⟩
theorem D.onI {α:Type} {d:D} {f:Int→Option α} {z:α} (h:d.ifI f Option.none=some z):∃ x,d = .int x∧f x=some z:=(D.orI h).resolve_right nofun
noncomputable def D.ifS {α:Type} (d:D) (f:List Nat→Option α) (r:Option α):Option α:=match d with
 | .str x=>f x
 | _=>r
theorem D.orS {α:Type} {d:D} {f:List Nat→Option α} {r:Option α} {z:α} (h:d.ifS f r=some z):(∃ x,d = .str x∧f x=some z)∨r=some z:=by
 cases d <;> first | exact .inr h | exact .inl ⟨_,rfl,h⟩
theorem D.onS {α:Type} {d:D} {f:List Nat→Option α} {z:α} (h:d.ifS f Option.none=some z):∃ x,d = .str x∧f x=some z:=(D.orS h).resolve_right nofun
noncomputable def D.ifT {α:Type} (d:D) (f:List D→Option α) (r:Option α):Option α:=match d with
 | .tup x=>f x
 | _=>r
theorem D.orT {α:Type} {d:D} {f:List D→Option α} {r:Option α} {z:α} (h:d.ifT f r=some z):(∃ x,d = .tup x∧f x=some z)∨r=some z:=by
 cases d <;> first | exact .inr h | exact .inl ⟨_,rfl,h⟩
theorem D.onT {α:Type} {d:D} {f:List D→Option α} {z:α} (h:d.ifT f Option.none=some z):∃ x,d = .tup x∧f x=some z:=(D.orT h).resolve_right nofun
noncomputable def D.ifL {α:Type} (d:D) (f:List D→Option α) (r:Option α):Option α:=match d with
 | .lst x=>f x
 | _=>r
theorem D.orL {α:Type} {d:D} {f:List D→Option α} {r:Option α} {z:α} (h:d.ifL f r=some z):(∃ x,d = .lst x∧f x=some z)∨r=some z:=by
 cases d <;> first | exact .inr h | exact .inl ⟨_,rfl,h⟩
theorem D.onL {α:Type} {d:D} {f:List D→Option α} {z:α} (h:d.ifL f Option.none=some z):∃ x,d = .lst x∧f x=some z:=(D.orL h).resolve_right nofun
noncomputable def D.ifA {α:Type} (d:D) (f:List (Int×D)→Option α) (r:Option α):Option α:=match d with
 | .dcI x=>f x
 | _=>r
theorem D.orA {α:Type} {d:D} {f:List (Int×D)→Option α} {r:Option α} {z:α} (h:d.ifA f r=some z):(∃ x,d = .dcI x∧f x=some z)∨r=some z:=by
 cases d <;> first | exact .inr h | exact .inl ⟨_,rfl,h⟩
theorem D.onA {α:Type} {d:D} {f:List (Int×D)→Option α} {z:α} (h:d.ifA f Option.none=some z):∃ x,d = .dcI x∧f x=some z:=(D.orA h).resolve_right nofun
noncomputable def D.ifB {α:Type} (d:D) (f:List (List Nat×D)→Option α) (r:Option α):Option α:=match d with
 | .dcS x=>f x
 | _=>r
theorem D.orB {α:Type} {d:D} {f:List (List Nat×D)→Option α} {r:Option α} {z:α} (h:d.ifB f r=some z):(∃ x,d = .dcS x∧f x=some z)∨r=some z:=by
 cases d <;> first | exact .inr h | exact .inl ⟨_,rfl,h⟩
theorem D.onB {α:Type} {d:D} {f:List (List Nat×D)→Option α} {z:α} (h:d.ifB f Option.none=some z):∃ x,d = .dcS x∧f x=some z:=(D.orB h).resolve_right nofun
noncomputable def D.ifY {α:Type} (d:D) (f:String→Option α) (r:Option α):Option α:=match d with
 | .ty x=>f x
 | _=>r
theorem D.orY {α:Type} {d:D} {f:String→Option α} {r:Option α} {z:α} (h:d.ifY f r=some z):(∃ x,d = .ty x∧f x=some z)∨r=some z:=by
 cases d <;> first | exact .inr h | exact .inl ⟨_,rfl,h⟩
theorem D.onY {α:Type} {d:D} {f:String→Option α} {z:α} (h:d.ifY f Option.none=some z):∃ x,d = .ty x∧f x=some z:=(D.orY h).resolve_right nofun
theorem zb4 {α:Type} {c:Prop} [Decidable c] {a z:α} (h:(if c then some a else none)=some z):c∧a=z:=by
 by_cases q:c
 ·exact ⟨q,Option.some.inj ((if_pos q).symm.trans h)⟩
 ·exact nomatch (if_neg q).symm.trans h
noncomputable def in1 {α:Type} (l:List D) (f:D→Option α):Option α:=match l with
 | [a]=>f a
 | _=>none
noncomputable def in2 {α:Type} (l:List D) (f:D→D→Option α):Option α:=match l with
 | []=>none
 | a :: l=>in1 l (f a)
theorem zgl {α:Type} {l:List D} {f:D→Option α} {z:α} (h:in1 l f=some z):∃ a,l=[a]∧f a=some z:=match l,h with
 | [a],h=>⟨a,rfl,h⟩
theorem zgm {α:Type} {l:List D} {f:D→D→Option α} {z:α} (h:in2 l f=some z):∃ a b,l=[a,b]∧f a b=some z:=match l,h with
 | a :: _,h=>let ⟨b,e,h⟩:=zgl h;⟨a,b,congrArg _ e,h⟩
noncomputable def zaH (x y:D):Option D:=
 x.ifI (fun a=>y.ifI (fun b=>some (.int (a+b))) none) <| x.ifS (fun a=>y.ifS (fun b=>if a.length+b.length≤16777216 then some (.str (a ++ b)) else none) none) <|
 x.ifL (fun a=>y.ifL (fun b=>if a.length+b.length≤16777216 then some (.lst (a ++ b)) else none) none) none
theorem Vw.int_inv {w:World} {h:Heap} {I:SI} {i:Int} {v:Value} (x:Vw w h I (.int i) v):∃ t,v = .int i t:=x.inv0
theorem Vw.str_inv {w:World} {h:Heap} {I:SI} {i:List Nat} {v:Value} (x:Vw w h I (.str i) v):∃ t,v = .str (Mine.Internal.str i) t:=x.inv0
theorem Vw.none_inv {w:World} {h:Heap} {I:SI} {v:Value} (x:Vw w h I .none v):v = .none:=x.inv0
theorem Vw.lst_inv {w:World} {h:Heap} {I:SI} {ds:List D} {v:Value} (x:Vw w h I (.lst ds) v) (hI:∀ a o,I a o→h.get? a=some o):∃ a vs n,v = .ref a∧IsL h a vs.toArray n∧zaC w I ds vs:=by
 obtain ⟨a,o,vs,e,g,⟨n,rfl⟩,c⟩:=x.invH hI
 exact ⟨a,vs,n,e,g,c⟩
theorem Vw.tup_inv {w:World} {h:Heap} {I:SI} {ds:List D} {v:Value} (x:Vw w h I (.tup ds) v) (hI:∀ a o,I a o→h.get? a=some o):∃ a vs n,v = .ref a∧h.get? a=some { cls:=.type "tuple",dict:=none,data:=.seq vs.toArray n,slots:=#[] }∧zaC w I ds vs:=by
 obtain ⟨a,o,vs,e,g,⟨n,rfl⟩,c⟩:=x.invH hI
 exact ⟨a,vs,n,e,g,c⟩
theorem zaC.append {w:World} {I:SI} {ds es:List D} {vs ws:List Value} (r:zaC w I ds vs) (h:zaC w I es ws):zaC w I (ds ++ es) (vs ++ ws):=r.ind (P:=fun ds vs=>zaC w I (ds ++ es) (vs ++ ws)) h fun a x_ c=>.cons a c
theorem zha (a b:List Nat):Mine.Internal.str a ++ Mine.Internal.str b=Mine.Internal.str (a ++ b):=by
 show Str.append _ _=_
 simp [Mine.Internal.str,Str.append]
theorem zbk (a:List Nat):(Mine.Internal.str a).length=a.length:=by simp [Mine.Internal.str,Str.length]
theorem za7:sizeLine=16777216:=rfl
theorem zvD {w:World}:zhL w .Add zaH:=by
 refine ⟨?_⟩
 intro x y z h A s I a b Q E hc ha hb H
 rcases D.orI h with ⟨i,rfl,g⟩ | h
 ·obtain ⟨j,rfl,k⟩:=D.onI g
  cases k
  obtain ⟨t,rfl⟩:=ha.int_inv
  obtain ⟨u,rfl⟩:=hb.int_inv
  exact PyProof.Rows.add_int H.int
 rcases D.orS h with ⟨i,rfl,g⟩ | h
 ·obtain ⟨j,rfl,k⟩:=D.onS g
  obtain ⟨hl,rfl⟩:=zb4 k
  obtain ⟨t,rfl⟩:=ha.str_inv
  obtain ⟨u,rfl⟩:=hb.str_inv
  refine PyProof.Rows.add_str (fun t' tk=>?_) (by rw [zbk,zbk];exact hl)
  rw [zha];exact H.str
 ·obtain ⟨i,rfl,g⟩:=D.onL h
  obtain ⟨j,rfl,k⟩:=D.onL g
  obtain ⟨hz,rfl⟩:=zb4 k
  obtain ⟨l,vs,n,rfl,hl,hvs⟩:=ha.lst_inv hc.here
  obtain ⟨l2,ws,n',rfl,hk,hws⟩:=hb.lst_inv hc.here
  have e1:=hvs.length
  have e2:=hws.length
  refine P.add_list hl hk (H.new (o:={ cls:=.type "list",data:=.seq (vs.toArray ++ ws.toArray) }) (u:=s.toks) rfl fun J hJ hn=>?_) (by rw [za7,List.size_toArray,List.size_toArray,← e1,← e2];exact hz)
  exact .lst hn ⟨0,by simp⟩ ((hvs.mono hJ).append (hws.mono hJ))
noncomputable def zho {α:Type} (f:Int→Int→Option α) (x y:D):Option α:=x.ifI (fun a=>y.ifI (f a) none) none
theorem zeF {α:Type} {f:Int→Int→Option α} {x y:D} {z:α} (h:zho f x y=some z):∃ a b,x = .int a∧y = .int b∧f a b=some z:=
 let ⟨a,e,h⟩:=D.onI h;let ⟨b,e',h⟩:=D.onI h;⟨a,b,e,e',h⟩
noncomputable def zfp:D→D→Option D:=zho fun a b=>some (.int (a - b))
noncomputable def zev:D→D→Option D:=zho fun a b=>if b.natAbs < 9223372036854775808 then some (.int (a * b)) else none
noncomputable def zil:D→D→Option D:=zho fun a b=>if 0 < b∧b < 1073741824 then some (.int (a / b)) else none
noncomputable def zba:D→D→Option D:=zho fun a b=>if 0 < b then some (.int (a % b)) else none
noncomputable def zdL:D→D→Option D:=zho fun a b=>if 0≤b∧b < 1000∧0≤a∧a < 1000 then some (.int (a ^ b.toNat)) else none
theorem zvE {w:World}:zhL w .Sub zfp:=by
 refine ⟨?_⟩
 intro x y z h A s I a b Q E hc ha hb H
 obtain ⟨i,j,rfl,rfl,g⟩:=zeF h
 cases g
 obtain ⟨t,rfl⟩:=ha.int_inv
 obtain ⟨u,rfl⟩:=hb.int_inv
 exact PyProof.Rows.sub_int' H.int
theorem zlJ {a:Int} {n:Nat} (h:a.natAbs < 2 ^ n):Builtin.Int.intBits a≤n:=by
 unfold Builtin.Int.intBits
 split
 ·exact Nat.zero_le _
 ·rename_i h0
  have h0':a.natAbs≠0:=by simpa using h0
  have:=(Nat.log2_lt h0').mpr h
  lia
theorem zvF {w:World}:zhL w .Mult zev:=by
 refine ⟨?_⟩
 intro x y z h A s I a b Q E hc ha hb H
 obtain ⟨i,j,rfl,rfl,g⟩:=zeF h
 obtain ⟨hb',rfl⟩:=zb4 g
 obtain ⟨t,rfl⟩:=ha.int_inv
 obtain ⟨u,rfl⟩:=hb.int_inv
 refine PyProof.Rows.mul_int H.int ?_
 exact IntMulOk.of_right (Nat.le_trans (zlJ (n:=63) hb') (by decide))
theorem ztQ {w:World}:zhL w .FloorDiv zil:=by
 refine ⟨?_⟩
 intro x y z h A s I a b Q E hc ha hb H
 obtain ⟨i,j,rfl,rfl,g⟩:=zeF h
 obtain ⟨hb',rfl⟩:=zb4 g
 obtain ⟨t,rfl⟩:=ha.int_inv
 obtain ⟨u,rfl⟩:=hb.int_inv
 refine PyProof.Rows.floordiv_int (by lia) ?_ (.inl (PyProof.noPylong_small (by lia)))
 rw [Int.fdiv_eq_ediv_of_nonneg _ (by lia)];exact H.int
theorem zvG {w:World}:zhL w .Mod zba:=by
 refine ⟨?_⟩
 intro x y z h A s I a b Q E hc ha hb H
 obtain ⟨i,j,rfl,rfl,g⟩:=zeF h
 obtain ⟨hb',rfl⟩:=zb4 g
 obtain ⟨t,rfl⟩:=ha.int_inv
 obtain ⟨u,rfl⟩:=hb.int_inv
 refine PyProof.Rows.mod_int' (by lia) ?_
 rw [Int.fmod_eq_emod_of_nonneg _ (by lia)];exact H.int
theorem zvH {w:World}:zhL w .Pow zdL:=by
 refine ⟨?_⟩
 intro x y z h A s I v w' Q E hc ha hb H
 obtain ⟨a,b,rfl,rfl,g⟩:=zeF h
 obtain ⟨hb',rfl⟩:=zb4 g
 obtain ⟨t,rfl⟩:=ha.int_inv
 obtain ⟨u,rfl⟩:=hb.int_inv
 refine PyProof.Rows.pow_int (by lia) ?_ H.int
 have h64:=zlJ (n:=10) (a:=a) (by lia)
 have:(Builtin.Int.intBits a:Int)≤10:=by lia
 calc (Builtin.Int.intBits a:Int) * b≤10 * 1000:=Int.mul_le_mul this (by lia) (by lia) (by lia)
  _≤2 ^ 27:=by decide
structure WF (κ:KK):Prop where
 lim:κ.B.NoLimit
 inK:κ.K.In κ.B
 dig:∃ mc,κ.B.Ns cStatics mc∧mc "sys.int_max_str_digits"=none
 big:3 < κ.B.objs.size
 glob:κ.B.Ns mainGlobals κ.mg
 blt:κ.B.Ns builtinsNs κ.mb
 free:∀ x∈zfN,κ.mg (Str.ofString x)=none
 boot:∀ x∈zfN,κ.mb (Str.ofString x)=bootBuiltins (Str.ofString x)
theorem zdQ.of {κ:KK} {n:Nat} {c:Cx} {s:Shared} {σ:Loc} {ρ:List (List Addr)} {μ:Mem} {m:Str→Option Value} (W:WF κ) (ok:zbx n c) (S:Stt κ c s σ ρ μ m):zdQ c.A s (Im s.heap ρ c.fr):=
 ⟨by have:=ok.units;lia,ok.handled,W.lim.keeps S.inv.keep,fun x_ x_ h=>h.1⟩
theorem Stt.post {κ:KK} {c:Cx} {s:Shared} {σ:Loc} {ρ:List (List Addr)} {μ:Mem} {m:Str→Option Value} (S:Stt κ c s σ ρ μ m) {s₀:Shared} {ρ₀:List (List Addr)} (l:zaG c ρ₀ s₀ s) (g:zbj s₀ ρ₀ ρ) {z:D} {Q:Value→Shared→Prop}
  (h:zfP κ c s₀ ρ₀ σ m Q (.d z) μ):zbC κ.w s (Im s.heap ρ c.fr) z Q:=by
 intro s' v ⟨k1,k3,k4⟩ r
 obtain ⟨S',l'⟩:=S.keeps k1 k3 k4
 refine h s' ρ v S' (l.trans g l') g (.d (r _ (l'.im .refl) fun a o ha e=>⟨e,fun q=>?_,fun q=>?_⟩))
 ·obtain ⟨o,h⟩:=S.inv.has a (List.mem_append_left _ q);rw [ha] at h;cases h
 ·obtain ⟨o,h⟩:=S.inv.has a (List.mem_append_right _ (by simpa [Cx.fr,Cx.fs] using q));rw [ha] at h;cases h
noncomputable def zgn (μ:Mem) (a b:V) (op:D→D→Option D):RE:=match res μ a,res μ b with
 | some x,some y=>ofO (op x y) μ
 | _,_=>.stuck
noncomputable def zai (op:D→D→Option D) (F G:EF):EF:=fun σ μ=>(F σ μ).bind fun a μ1=>(G σ μ1).bind fun b μ2=>zgn μ2 a b op
set_option tactic.hygienic true in
theorem zlc {κ:KK} {c:Cx} {s:Shared} {ρ:List (List Addr)} {E:Value→Shared→Prop} {K:V→Mem→Prop} {μ:Mem} {a b:V} {op:D→D→Option D} (h:za6 κ c s ρ E (zgn μ a b op) K):∃ x y z,res μ a=some x∧res μ b=some y∧op x y=some z∧K (.d z) μ:=by
 unfold zgn at h
 split at h
 ·rename_i x y h1 h2
  cases q:op x y with
  | none=>rw [q] at h;exact h.elim
  | some z=>rw [q] at h;exact ⟨x,y,z,h1,h2,q,h⟩
 ·exact h.elim
theorem zxh {κ:KK} (W:WF κ) {n:Nat} {sc:Scope} {e1 e2:Expr} {pos:Pos} {F G:EF} {bop:Operator} {op:D→D→Option D} (ho:zhL κ.w bop op) (h1:SE κ n sc e1 F) (h2:SE κ n sc e2 G) :
  SE κ n sc (.BinOp e1 bop e2 pos) (zai op F G):=by
 refine ⟨?_⟩
 intro c hc ok σ μ ρ m s Q E S H
 refine wpAny_BinOp (h1.next hc ok S .refl .refl S.nbρ H fun v1 μ1 s1 ρ1 val1 S1 l1 g1 x_ x_ r1 H1=>?_)
 refine h2.next hc ok S1 l1 g1 S.nbρ H1 fun v2 μ2 s2 ρ2 val2 S2 l2 g2 hi hr r2 H2=>?_
 obtain ⟨x,y,z,q1,q2,q,H3⟩:=zlc H2
 exact ho.run x y z q _ _ _ _ _ _ _ (zdQ.of W ok S2) ((r1.mono hi hr).view S2 q1) (r2.view S2 q2) (S2.post l2 g2 H3)
mutual
noncomputable def D.py:D→PyData
 | .none=>.none
 | .bool b=>.bool b
 | .int i=>.int i
 | .str x=>.str (Mine.Internal.str x)
 | .tup ds=>.tuple (pys ds)
 | .lst ds=>.list (pys ds)
 | .dcI _=>.dict []
 | .dcS _=>.dict []
 | .ty _=>.dict []
noncomputable def pys:List D→List PyData
 | []=>[]
 | d :: ds=>d.py :: pys ds
end
theorem zsb {h:Heap} {a:Addr} {vs:List Value} {ds:List D} {n:Nat} (g:h.get? a=some { cls:=.type "tuple",dict:=none,data:=.seq vs.toArray n,slots:=#[] }) (r:∃ as,ReadsAll h vs (pys ds) as):∃ as,Reads h (.ref a) (D.tup ds).py as:=by
 obtain ⟨as,r⟩:=r
 exact ⟨as,by rw [D.py];exact .tuple g rfl rfl r⟩
theorem zsc {h:Heap} {a:Addr} {vs:List Value} {ds:List D} {n:Nat} (g:h.get? a=some { cls:=.type "list",dict:=none,data:=.seq vs.toArray n,slots:=#[] }) (r:∃ as,ReadsAll h vs (pys ds) as):∃ as,Reads h (.ref a) (D.lst ds).py as:=by
 obtain ⟨as,r⟩:=r
 exact ⟨_,by rw [D.py];exact .list g rfl rfl r⟩
theorem zaC.reads {w:World} {I:SI} {h:Heap} (hI:∀ a o,I a o→h.get? a=some o) {ds:List D} {vs:List Value} (r:zaC w I ds vs):PyData.canLayAll0 (pys ds)=true→∃ as,ReadsAll h vs (pys ds) as:=
 zaC.rec (motive_1:=fun d v x_=>d.py.canLay0=true→∃ as,Reads h v d.py as) (motive_2:=fun ds vs x_=>PyData.canLayAll0 (pys ds)=true→∃ as,ReadsAll h vs (pys ds) as)
  (fun x_=>⟨_,.none⟩) (fun b x_=>⟨_,.bool b⟩) (fun i t x_=>⟨_,.int i t⟩) (fun s t x_=>⟨_,.str _ t⟩) (fun x_ q=>nomatch q)
  (fun a b x_ c q=>by obtain ⟨n,rfl⟩:=b;exact zsb (hI _ _ a) (c q)) (fun a b x_ c q=>by obtain ⟨n,rfl⟩:=b;exact zsc (hI _ _ a) (c q))
  (fun x_ x_ x_ x_ x_ x_ q=>nomatch q) (fun x_ x_ x_ x_ x_ x_ q=>nomatch q) (fun x_=>⟨_,.nil⟩)
  (fun x_ x_ a b q=>by
   rw [pys,PyData.canLayAll0,Bool.and_eq_true] at q
   obtain ⟨as,r⟩:=a q.1
   obtain ⟨bs,t⟩:=b q.2
   exact ⟨_,by rw [pys];exact .cons r t⟩) r
theorem Rd.reads {w:World} {I:SI} {h:Heap} (hI:∀ a o,I a o→h.get? a=some o) {d:D} {v:Value} (r:Rd w I d v) (q:d.py.canLay0=true):∃ as,Reads h v d.py as:=by
 obtain ⟨as,t⟩:=zaC.reads hI (.cons r .nil) (by rw [pys,PyData.canLayAll0,q];rfl)
 rw [pys] at t
 cases t with
 | cons r _=>exact ⟨_,r⟩
theorem Vw.reads {w:World} {I:SI} {h:Heap} (hI:∀ a o,I a o→h.get? a=some o) {d:D} {v:Value} (x:Vw w h I d v) (q:d.py.canLay0=true):∃ as,Reads h v d.py as:=by
 cases x with
 | rd r=>exact r.reads hI q
 | lst a b c=>
  obtain ⟨n,rfl⟩:=b
  obtain ⟨as,r⟩:=zaC.reads hI c (by simpa [D.py,PyData.canLay0] using q)
  exact ⟨_,by rw [D.py];exact .list a rfl rfl (by simpa using r)⟩
 | dcI _ _ _ _ _=>simp [D.py,PyData.canLay0] at q
 | dcS _ _ _ _ _=>simp [D.py,PyData.canLay0] at q
noncomputable def ztR {α:Type} (f:List Nat→List Nat→Option α) (r:Option α) (x y:D):Option α:=x.ifS (fun a=>y.ifS (f a) r) r
theorem zm8 {α:Type} {f:List Nat→List Nat→Option α} {r:Option α} {x y:D} {z:α} (h:ztR f r x y=some z):(∃ a b,x = .str a∧y = .str b∧f a b=some z)∨r=some z:=
 (D.orS h).elim (fun ⟨a,e,h⟩=>(D.orS h).elim (fun ⟨b,e',h⟩=>.inl ⟨a,b,e,e',h⟩) .inr) .inr
noncomputable def ziH (a b:D):Option Bool:=
 a.ifI (fun i=>b.ifI (fun j=>some (decide (i=j))) none) <| ztR (fun x y=>some (decide (x=y))) (if SeqAt.shaped a.py=true∧SeqAt.shaped b.py=true then some (PyData.eqv a.py b.py) else none) a b
noncomputable def zbl:List D→Option (List (List Nat))
 | []=>some []
 | .str x :: ds=>(zbl ds).map (x :: ·)
 | _ :: _=>none
noncomputable def zvj (x:List Nat) (b:D):Option Bool:=b.ifT (fun ds=>(zbl ds).map fun ys=>decide (x∈ys)) <| b.ifL (fun ds=>(zbl ds).map fun ys=>decide (x∈ys)) <|
  b.ifS (fun y=>match x with
   | [c]=>some (decide (c∈y))
   | _=>none) <| b.ifB (fun kvs=>some (decide (x∈kvs.map (·.1)))) none
noncomputable def zvk (i:Int) (b:D):Option Bool:=b.ifA (fun kvs=>some (decide (i∈kvs.map (·.1)))) none
noncomputable def ztS (a b:D):Option Bool:=a.ifS (fun x=>zvj x b) <| a.ifI (fun i=>zvk i b) none
noncomputable def D.isN:D→Bool
 | .none=>true
 | _=>false
theorem D.isN_eq {d:D} (h:d.isN=true):d = .none:=by cases d <;> first | rfl | cases h
noncomputable def zzL (a b:D):Option Bool:=if b.isN=true then bif a.isN then some true else a.ifS (fun x_=>some false) <| a.ifI (fun x_=>some false) none else none
noncomputable def zfR:CmpOp→D→D→Option Bool
 | .Eq=>ziH
 | .NotEq=>fun a b=>(ziH a b).map (!·)
 | .Lt=>zho fun a b=>some (decide (a < b))
 | .LtE=>fun a b=>ztR (fun a b=>some (!decide (b < a))) (zho (fun a b=>some (decide (a≤b))) a b) a b
 | .Gt=>zho fun a b=>some (decide (b < a))
 | .GtE=>zho fun a b=>some (decide (b≤a))
 | .In=>ztS
 | .NotIn=>fun a b=>(ztS a b).map (!·)
 | .Is=>zzL
 | .IsNot=>fun x_ x_=>none
noncomputable def zhM (w:World) (cop:CmpOp):Prop:=∀ x y b,zfR cop x y=some b→∀ (A:Around) (s:Shared) (I:SI) (u v:Value) (Q E:Value→Shared→Prop),zdQ A s I→
 Vw w s.heap I x u→Vw w s.heap I y v→zbC w s I (.bool b) Q→wpAny (model pg w) A (compareOp cop u v) Q E s
theorem zmA {a b:List Nat}:(Mine.Internal.str a == Mine.Internal.str b)=decide (a=b):=by
 rw [Bool.eq_iff_iff];simp [Mine.Internal.str]
theorem zbC.bool' {w:World} {s:Shared} {I:SI} {b:Bool} {Q:Value→Shared→Prop} (h:zbC w s I (.bool b) Q):Q (.bool b) s:=h _ _ .refl fun x_ x_ x_=>.bool b
theorem zkI {d:D} {ds:List D} {ys:List (List Nat)} (h:zbl (d :: ds)=some ys):∃ x zs,d = .str x∧zbl ds=some zs∧ys=x :: zs:=by
 cases d with
 | str x=>obtain ⟨zs,hz,e⟩:=Option.map_eq_some_iff.mp h;exact ⟨x,zs,rfl,hz,e.symm⟩
 | _=>exact nomatch h
theorem zkJ {w:World} {I:SI} {ds:List D} {vs:List Value} {ys:List (List Nat)} (r:zaC w I ds vs) (h:zbl ds=some ys):∃ ts:List Tok,ts.length=ys.length∧vs=(ys.zip ts).map fun p=>Value.str (Mine.Internal.str p.1) p.2:=
 r.ind (P:=fun ds vs=>∀ ys,zbl ds=some ys→∃ ts:List Tok,ts.length=ys.length∧vs=(ys.zip ts).map fun p=>Value.str (Mine.Internal.str p.1) p.2) (fun x_ h=>⟨[],by rw [← Option.some.inj h];exact ⟨rfl,rfl⟩⟩) (fun a x_ ih ys h=>by
  obtain ⟨x,zs,rfl,hz,rfl⟩:=zkI h
  obtain ⟨ts,e1,rfl⟩:=ih zs hz
  obtain ⟨t,rfl⟩:=a.str_inv
  exact ⟨t :: ts,congrArg Nat.succ e1,rfl⟩) ys h
noncomputable def isS (x:List Nat):Value→Bool
 | .str z _=>z == Mine.Internal.str x
 | _=>false
theorem zhp (x:List Nat):∀ {ys:List (List Nat)} {ts:List Tok},ts.length=ys.length→((ys.zip ts).map fun p=>Value.str (Mine.Internal.str p.1) p.2).any (isS x)=decide (x∈ys)
 | [],[],_=>by simp
 | y :: ys,t' :: ts,h=>by
  rw [List.zip_cons_cons,List.map_cons,List.any_cons,zhp x (by simpa using h)]
  simp only [isS,zmA]
  by_cases e:y=x
  ·subst e;simp
  ·have e':¬ x=y:=fun q=>e q.symm
   simp [e,e']
theorem eqGives_str (y:Value) (x:List Nat) (t:Tok) (h:∃ z u,y = .str z u):MeetsSeq.EqGives y (.str (Mine.Internal.str x) t) (isS x y):=by
 obtain ⟨z,u,rfl⟩:=h
 exact PyProof.Rows.eqGives_str _ _ _ _
theorem zkc (x:List Nat) (t:Tok) {ys:List (List Nat)} {ts:List Tok}:∀ y,y∈((ys.zip ts).map fun p=>Value.str (Mine.Internal.str p.1) p.2).toArray→MeetsSeq.EqGives y (.str (Mine.Internal.str x) t) (isS x y):=
 fun y hy=>eqGives_str y _ t (by obtain ⟨p,_,e⟩:=List.mem_map.mp (List.mem_toArray.mp hy);exact ⟨_,_,e.symm⟩)
theorem ze5.mapOf {K:Type} [DecidableEq K] {w:World} {knd:KeyKind pg w K} {o:Obj} {kvs:List (K×Value)} (x:ze5 knd o kvs) {h:Heap} {a:Addr} (g:h.get? a=some o):h.DictOf knd a kvs:=by
 obtain ⟨es,ep,e1,e2,e3⟩:=x.data
 exact ⟨o,es,ep,g,x.exact,e1,e2,e3,x.nodup⟩
theorem zcJ {K:Type} [DecidableEq K] {w:World} {knd:KeyKind pg w K} {h:Heap} {a:Addr} {kvs:List (K×Value)} (x:h.DictOf knd a kvs):h.MapOf knd a (fun k=>valueAt kvs k):=by
 obtain ⟨o,es,ep,g,e0,e1,e2,e3,e4⟩:=x
 refine ⟨o,es,ep,g,e0,e1,e2,fun k=>?_⟩
 unfold findBy
 rw [← Array.find?_toList]
 exact e3.find k
theorem zeV {K:Type} [DecidableEq K] (kvs:List (K×Value)) (k:K):(valueAt kvs k).isSome=decide (k∈kvs.map (·.1)):=by
 unfold valueAt
 rw [Bool.eq_iff_iff]
 simp [List.find?_isSome]
theorem Vw.dcI_inv {w:World} {h:Heap} {I:SI} {kvs:List (Int×D)} {v:Value} (x:Vw w h I (.dcI kvs) v) (hI:∀ a o,I a o→h.get? a=some o) :
  ∃ a kws,v = .ref a∧(a == sysModules)=false∧h.DictOf (intKind pg w) a kws∧kws.map (·.1)=kvs.map (·.1)∧zaC w I (kvs.map (·.2)) (kws.map (·.2)):=
 (x.invH hI).imp fun _ ⟨_,kws,e,g,z,b,c,d⟩=>⟨kws,e,z,b.mapOf g,c,d⟩
theorem Vw.dcS_inv {w:World} {h:Heap} {I:SI} {kvs:List (List Nat×D)} {v:Value} (x:Vw w h I (.dcS kvs) v) (hI:∀ a o,I a o→h.get? a=some o) :
  ∃ a kws,v = .ref a∧(a == sysModules)=false∧h.DictOf (PySem.strKind pg w) a kws∧kws.map (·.1)=kvs.map (fun p=>Mine.Internal.str p.1)∧zaC w I (kvs.map (·.2)) (kws.map (·.2)):=
 (x.invH hI).imp fun _ ⟨_,kws,e,g,z,b,c,d⟩=>⟨kws,e,z,b.mapOf g,c,d⟩
theorem zkK (x:List Nat) (kvs:List (List Nat×D)):decide (Mine.Internal.str x∈kvs.map (fun p=>Mine.Internal.str p.1))=decide (x∈kvs.map (·.1)):=by
 congr 1
 simp [Mine.Internal.str]
noncomputable def InB (w:World) (A:Around) (s:Shared) (I:SI) (u v:Value) (b:Bool):Prop:=∀ Q E:Value→Shared→Prop,(zbC w s I (.bool b) Q→wpAny (model pg w) A (compareOp .In u v) Q E s)∧(zbC w s I (.bool !b) Q→wpAny (model pg w) A (compareOp .NotIn u v) Q E s)
theorem zzM {w:World} {A:Around} {s:Shared} {I:SI} {x:List Nat} {t:Tok} {y:D} {v:Value} {b:Bool} (hc:zdQ A s I) (hv:Vw w s.heap I y v) (g:zvj x y=some b):InB w A s I (.str (Mine.Internal.str x) t) v b:=by
 rcases D.orT g with ⟨ds,rfl,k⟩ | g
 ·obtain ⟨ys,hy,rfl⟩:=Option.map_eq_some_iff.mp k
  obtain ⟨a,vs,n,rfl,ha,hvs⟩:=hv.tup_inv hc.here
  obtain ⟨ts,e1,rfl⟩:=zkJ hvs hy
  exact fun Q E=>⟨fun H=>SeqRoads2.in_tuple _ (zkc x t) ha (by rw [List.any_toArray,zhp _ e1];exact H.bool'),fun H=>SeqRoads2.notIn_tuple _ (zkc x t) ha (by rw [List.any_toArray,zhp _ e1];exact H.bool')⟩
 rcases D.orL g with ⟨ds,rfl,k⟩ | g
 ·obtain ⟨ys,hy,rfl⟩:=Option.map_eq_some_iff.mp k
  obtain ⟨a,vs,n,rfl,ha,hvs⟩:=hv.lst_inv hc.here
  obtain ⟨ts,e1,rfl⟩:=zkJ hvs hy
  exact fun Q E=>⟨fun H=>SeqRoads2.in_list _ (zkc x t) ha (by rw [List.any_toArray,zhp _ e1];exact H.bool'),fun H=>SeqRoads2.notIn_list _ (zkc x t) ha (by rw [List.any_toArray,zhp _ e1];exact H.bool')⟩
 rcases D.orS g with ⟨y,rfl,k⟩ | g
 ·obtain ⟨t',rfl⟩:=hv.str_inv
  obtain ⟨c,rfl⟩:∃ c,x=[c]:=by
   rcases x with _ | ⟨c,_ | ⟨d,l⟩⟩
   ·exact zbe k
   ·exact ⟨c,rfl⟩
   ·exact zbe k
  cases k
  have e:_=decide (c∈y):=(StrLaws.found_one (Mine.Internal.str y) c).trans (decide_eq_decide.mpr (by simp [Mine.Internal.str]))
  have e1:Mine.Internal.str [c]=⟨#[c]⟩:=rfl
  exact fun Q E=>⟨fun H=>PyProof.Rows.in_str (by rw [e1,e];exact H.bool'),fun H=>PyProof.Rows.notIn_str (by rw [e1,e];exact H.bool')⟩
 ·obtain ⟨kvs,rfl,k⟩:=D.onB g
  cases k
  obtain ⟨a,kws,rfl,hz,ha,hk,_⟩:=hv.dcS_inv hc.here
  have hm:=zcJ ha
  exact fun Q E=>⟨fun H=>wpAny_in_of (strKind_is pg w _ t) hz hm (by rw [zeV,hk,zkK];exact H.bool),fun H=>wpAny_notIn_of (strKind_is pg w _ t) hz hm (by rw [zeV,hk,zkK];exact H.bool)⟩
theorem zzN {w:World} {A:Around} {s:Shared} {I:SI} {i:Int} {t:Tok} {y:D} {v:Value} {b:Bool} (hc:zdQ A s I) (hv:Vw w s.heap I y v) (g:zvk i y=some b):InB w A s I (.int i t) v b:=by
 obtain ⟨kvs,rfl,k⟩:=D.onA g
 cases k
 obtain ⟨a,kws,rfl,hz,ha,hk,_⟩:=hv.dcI_inv hc.here
 have hm:=zcJ ha
 exact fun Q E=>⟨fun H=>wpAny_in_of (intKind_is pg w _ t) hz hm (by rw [zeV,hk];exact H.bool),fun H=>wpAny_notIn_of (intKind_is pg w _ t) hz hm (by rw [zeV,hk];exact H.bool)⟩
theorem zxi {w:World} {A:Around} {s:Shared} {I:SI} {x y:D} {u v:Value} {b:Bool} (hc:zdQ A s I) (hu:Vw w s.heap I x u) (hv:Vw w s.heap I y v) (h:ztS x y=some b):InB w A s I u v b:=by
 rcases D.orS h with ⟨x,rfl,g⟩ | g
 ·obtain ⟨t,rfl⟩:=hu.str_inv;exact zzM hc hv g
 ·obtain ⟨i,rfl,g⟩:=D.onI g
  obtain ⟨t,rfl⟩:=hu.int_inv;exact zzN hc hv g
theorem zsd {w:World}:zhM w .In∧zhM w .NotIn:=by
 refine ⟨fun x y b h A s I u v Q E hc hu hv H=>(zxi hc hu hv h Q E).1 H,fun x y b h A s I u v Q E hc hu hv H=>?_⟩
 obtain ⟨b',hb,rfl⟩:=Option.map_eq_some_iff.mp h
 exact (zxi hc hu hv hb Q E).2 H
theorem zi8 {d:PyData} (h:SeqAt.shaped d=true):d.canLay0=true:=by
 unfold SeqAt.shaped at h
 exact (Bool.and_eq_true_iff.mp h).1
theorem zse {w:World}:zhM w .Eq∧zhM w .NotEq:=by
 have key:∀ x y b,ziH x y=some b→∀ (A:Around) (s:Shared) (I:SI) (u v:Value) (Q E:Value→Shared→Prop),zdQ A s I→
   Vw w s.heap I x u→Vw w s.heap I y v→(zbC w s I (.bool b) Q→wpAny (model pg w) A (compareOp .Eq u v) Q E s)∧(zbC w s I (.bool !b) Q→wpAny (model pg w) A (compareOp .NotEq u v) Q E s):=by
  intro x y b h A s I u v Q E hc hu hv
  rcases D.orI h with ⟨i,rfl,g⟩ | g
  ·obtain ⟨j,rfl,k⟩:=D.onI g
   cases k
   obtain ⟨t,rfl⟩:=hu.int_inv
   obtain ⟨t',rfl⟩:=hv.int_inv
   exact ⟨fun H=>PyProof.Rows.eq_int H.bool',fun H=>PyProof.Rows.ne_int H.bool'⟩
  rcases zm8 g with ⟨i,j,rfl,rfl,k⟩ | g
  ·cases k
   obtain ⟨t,rfl⟩:=hu.str_inv
   obtain ⟨t',rfl⟩:=hv.str_inv
   refine ⟨fun H=>PyProof.Rows.eq_str ?_,fun H=>PyProof.Rows.ne_str ?_⟩
   ·rw [zmA];exact H.bool'
   ·rw [bne,zmA];exact H.bool'
  ·obtain ⟨hsh,rfl⟩:=zb4 g
   obtain ⟨as,ra⟩:=hu.reads hc.here (zi8 hsh.1)
   obtain ⟨bs,rb⟩:=hv.reads hc.here (zi8 hsh.2)
   have hun:A.units+64 < cLine:=by have:=hc.units;show A.units+64 < 9900;lia
   exact ⟨fun H=>eq_dataH ra rb hsh.1 hsh.2 hun H.bool',fun H=>ne_dataH ra rb hsh.1 hsh.2 hun H.bool'⟩
 refine ⟨fun x y b h A s I u v Q E hc hu hv H=>(key x y b h A s I u v Q E hc hu hv).1 H,fun x y b h A s I u v Q E hc hu hv H=>?_⟩
 obtain ⟨b',hb,rfl⟩:=Option.map_eq_some_iff.mp h
 exact (key x y b' hb A s I u v Q E hc hu hv).2 H
theorem ztT {w:World} {cop:CmpOp} {f:Int→Int→Bool} (h:zfR cop=zho fun a b=>some (f a b))
  (r:∀ {A:Around} {s:Shared} {a b:Int} {t u:Tok} {Q E:Value→Shared→Prop},Q (.bool (f a b)) s→wpAny (model pg w) A (compareOp cop (.int a t) (.int b u)) Q E s):zhM w cop:=by
 intro x y b hb A s I u v Q E hc hu hv H
 rw [h] at hb
 obtain ⟨i,j,rfl,rfl,g⟩:=zeF hb
 cases g
 obtain ⟨t,rfl⟩:=hu.int_inv
 obtain ⟨t',rfl⟩:=hv.int_inv
 exact r H.bool'
theorem zxj {w:World}:zhM w .Is:=by
 intro x y b h A s I u v Q E hc hu hv H
 obtain ⟨hy,g⟩:y.isN=true∧(bif x.isN then some true else x.ifS (fun x_=>some false) <| x.ifI (fun x_=>some false) none)=some b:=by
  by_cases q:y.isN=true
  ·exact ⟨q,(if_pos q).symm.trans h⟩
  ·exact nomatch (if_neg q).symm.trans h
 cases D.isN_eq hy
 rw [hv.none_inv]
 cases q:x.isN with
 | true=>
  cases D.isN_eq q
  cases g
  rw [hu.none_inv];exact is_none H.bool'
 | false=>
  rw [q] at g
  rcases D.orS g with ⟨i,rfl,k⟩ | g
  ·cases k
   obtain ⟨t,rfl⟩:=hu.str_inv
   exact is_none H.bool'
  ·obtain ⟨i,rfl,k⟩:=D.onI g
   cases k
   obtain ⟨t,rfl⟩:=hu.int_inv
   exact is_none H.bool'
theorem zxk {w:World}:zhM w .LtE:=by
 intro x y b h A s I u v Q E hc hu hv H
 rcases zm8 h with ⟨a,b,rfl,rfl,k⟩ | g
 ·cases k
  obtain ⟨t,rfl⟩:=hu.str_inv
  obtain ⟨t',rfl⟩:=hv.str_inv
  have e:decide ((Mine.Internal.str b).cps.toList < (Mine.Internal.str a).cps.toList)=decide (b < a):=decide_eq_decide.mpr (by simp [Mine.Internal.str])
  refine PySem.P.le_str ?_
  rw [e];exact H.bool'
 ·obtain ⟨a,b,rfl,rfl,k⟩:=zeF g
  cases k
  obtain ⟨t,rfl⟩:=hu.int_inv
  obtain ⟨t',rfl⟩:=hv.int_inv
  exact PyProof.Rows.le_int H.bool'
theorem zof {w:World} (cop:CmpOp):zhM w cop:=match cop with
 | .Eq=>zse.1
 | .NotEq=>zse.2
 | .In=>zsd.1
 | .NotIn=>zsd.2
 | .Is=>zxj
 | .Lt=>ztT rfl PyProof.Rows.lt_int
 | .LtE=>zxk
 | .Gt=>ztT rfl PyProof.Rows.gt_int
 | .GtE=>ztT rfl PyProof.Rows.ge_int
 | .IsNot=>fun x_ x_ x_ h=>nomatch h
noncomputable def opC (cop:CmpOp) (x y:D):Option D:=(zfR cop x y).map .bool
noncomputable def toB:V→Mem→RX Bool
 | .d (.bool b),μ=>.ok b μ
 | _,_=>.stuck
theorem zog {κ:KK} (W:WF κ) {n:Nat} {sc:Scope} {e1 e2:Expr} {F G:EF} {cop:CmpOp} (h1:SE κ n sc e1 F) (h2:SE κ n sc e2 G)
  {c:Cx} (hc:c.sc=sc) (ok:zbx n c) {σ:Loc} {μ:Mem} {ρ:List (List Addr)} {m:Str→Option Value} {s:Shared} {Q E:Value→Shared→Prop} (S:Stt κ c s σ ρ μ m) {s₀:Shared} {ρ₀:List (List Addr)} (l:zaG c ρ₀ s₀ s) (g:zbj s₀ ρ₀ ρ) (hn:c.nb≤ρ₀.length)
  (H:za6 κ c s₀ ρ₀ E (zai (opC cop) F G σ μ) (zfP κ c s₀ ρ₀ σ m Q)):wpAny (model pg κ.w) c.A (eval e1 c.env) (fun a s₁=>wpAny (model pg κ.w) c.A (eval e2 c.env) (fun b s₂=>wpAny (model pg κ.w) c.A (compareOp cop a b) Q E s₂) E s₁) E s:=by
 refine h1.next hc ok S l g hn H fun v1 μ1 s1 ρ1 val1 S1 l1 g1 x_ x_ r1 H1=>?_
 refine h2.next hc ok S1 l1 g1 hn H1 fun v2 μ2 s2 ρ2 val2 S2 l2 g2 hi hr r2 H2=>?_
 obtain ⟨x,y,z,q1,q2,q,H3⟩:=zlc H2
 obtain ⟨b,hb,rfl⟩:=Option.map_eq_some_iff.mp q
 exact zof cop x y b hb _ _ _ _ _ _ _ (zdQ.of W ok S2) ((r1.mono hi hr).view S2 q1) (r2.view S2 q2) (S2.post l2 g2 H3)
theorem zxl {κ:KK} (W:WF κ) {n:Nat} {sc:Scope} {e1 e2:Expr} {pos:Pos} {F G:EF} {cop:CmpOp} (hm:behindInMarks cop e2=false) (h1:SE κ n sc e1 F) (h2:SE κ n sc e2 G) :
  SE κ n sc (.Compare e1 [cop] [e2] pos) (zai (opC cop) F G):=by
 refine ⟨?_⟩
 intro c hc ok σ μ ρ m s Q E S H
 exact wpAny_Compare1 (zog W h1 h2 hc ok S .refl .refl S.nbρ H) hm
noncomputable def tst (F:EF):TF:=fun σ μ=>(F σ μ).bind toB
theorem za6.ofT {κ:KK} {c:Cx} {s:Shared} {ρ:List (List Addr)} {σ:Loc} {m:Str→Option Value} {r:RE} {Q:Bool→Shared→Prop} {E:Value→Shared→Prop} (h:za6 κ c s ρ E (r.bind toB) (zlb κ c s ρ σ m Q)) :
  za6 κ c s ρ E r (zfP κ c s ρ σ m fun v s'=>∃ b,v = .bool b∧Q b s'):=by
 cases r with
 | ok v μ=>
  cases v with
  | ref k=>exact h.elim
  | d x=>
   cases x with
   | bool b=>exact fun s' ρ' val S' l' g' r'=>⟨b,r'.d_inv.bool_inv,h s' ρ' S' l' g'⟩
   | _=>exact h.elim
 | exc x μ=>exact h
 | stuck=>exact h
theorem zxm {κ:KK} (W:WF κ) {n:Nat} {sc:Scope} {e1 e2:Expr} {pos:Pos} {F G:EF} {cop:CmpOp} (hm:behindInMarks cop e2=false) (h1:SE κ n sc e1 F) (h2:SE κ n sc e2 G) :
  ST κ n sc (.Compare e1 [cop] [e2] pos) (tst (zai (opC cop) F G)):=by
 refine ⟨?_⟩
 intro c hc ok σ μ ρ m s Q E S H
 refine wpAny_isTrue_Compare1 (wpAny_mono (zog W h1 h2 hc ok S .refl .refl S.nbρ H.ofT) (fun a s₁ h₁=>wpAny_mono h₁ (fun b s₂ h₂=>wpAny_mono h₂ (fun v s₃ h₃=>?_) fun x_ x_ e=>e) fun x_ x_ e=>e) fun x_ x_ e=>e) hm
 obtain ⟨b,rfl,hq⟩:=h₃
 exact wpAny_truthy_bool hq
theorem zxn {κ:KK} {n:Nat} {sc:Scope} {e:Expr} {F:EF} (he:∀ env zbO,isTrue e env zbO=(do let v ← zbO;standAt e.pos;holding [v] (truthy v))) (h:SE κ n sc e F):ST κ n sc e (tst F):=by
 refine ⟨?_⟩
 intro c hc ok σ μ ρ m s Q E S H
 refine wpAny_isTrue_value (wpAny_mono (h.run c hc ok σ μ ρ m s _ E S H.ofT) (fun v s₁ h₁=>?_) fun x_ x_ e=>e) (he _ _)
 obtain ⟨b,rfl,hq⟩:=h₁
 exact wpAny_truthy_bool hq
noncomputable def zdd (F:TF):TF:=fun σ μ=>(F σ μ).bind fun b μ=>.ok (!b) μ
noncomputable def zbE {α:Type} (F:TF) (G H:Loc→Mem→RX α):Loc→Mem→RX α:=fun σ μ=>(F σ μ).bind fun b μ=>if b then G σ μ else H σ μ
noncomputable def zbt:List TF→TF
 | []=>fun x_ μ=>.ok true μ
 | F :: Fs=>fun σ μ=>(F σ μ).bind fun b μ=>if b then zbt Fs σ μ else .ok false μ
noncomputable def kOr:List TF→TF
 | []=>fun x_ μ=>.ok false μ
 | F :: Fs=>fun σ μ=>(F σ μ).bind fun b μ=>if b then .ok true μ else kOr Fs σ μ
noncomputable def kB (F:TF):EF:=fun σ μ=>(F σ μ).bind fun b μ=>.ok (.d (.bool b)) μ
theorem zxo {κ:KK} {n:Nat} {sc:Scope} {e:Expr} {pos:Pos} {F:TF} (h:ST κ n sc e F):ST κ n sc (.UnaryOp .Not e pos) (zdd F):=by
 refine ⟨?_⟩
 intro c hc ok σ μ ρ m s Q E S H
 exact wpAny_isTrue_Not (h.next hc ok S .refl .refl S.nbρ H fun b μ' s' ρ' S' l' g' H'=>H' s' ρ' S' l' g')
theorem ztU {κ:KK} {n:Nat} {sc:Scope} {e e1 e2:Expr} {pos:Pos} {F:TF} {G H:EF} (h:ST κ n sc e F) (h1:SE κ n sc e1 G) (h2:SE κ n sc e2 H):SE κ n sc (.IfExp e e1 e2 pos) (zbE F G H):=by
 refine ⟨?_⟩
 intro c hc ok σ μ ρ m s Q E S HH
 refine wpAny_IfExp (h.next hc ok S .refl .refl S.nbρ HH fun b μ' s' ρ' S' l' g' H'=>?_)
 cases b with
 | true=>exact h1.last hc ok S' l' g' S.nbρ H'
 | false=>exact h2.last hc ok S' l' g' S.nbρ H'
inductive STs (κ:KK) (n:Nat) (sc:Scope):List Expr→List TF→Prop
 | nil:STs κ n sc [] []
 | cons {e es F Fs}:ST κ n sc e F→STs κ n sc es Fs→STs κ n sc (e :: es) (F :: Fs)
theorem zvI {κ:KK} {n:Nat} {sc:Scope}:∀ {es Fs},STs κ n sc es Fs→∀ c,c.sc=sc→zbx n c→∀ σ μ ρ m s Q E s₀ ρ₀,Stt κ c s σ ρ μ m→zaG c ρ₀ s₀ s→zbj s₀ ρ₀ ρ→c.nb≤ρ₀.length→za6 κ c s₀ ρ₀ E (zbt Fs σ μ) (zlb κ c s₀ ρ₀ σ m Q)→wpAny (model pg κ.w) c.A (allTrue .And es c.env) Q E s:=by
 intro es Fs x
 induction x with
 | nil=>intro c _ _ σ μ ρ m s Q E s₀ ρ₀ S l g hn H;exact wpAny_allTrue_And_nil (H s ρ S l g)
 | cons h _ ih=>
  intro c hc ok σ μ ρ m s Q E s₀ ρ₀ S l g hn H
  refine wpAny_allTrue_And_cons (h.next hc ok S l g hn H fun b μ' s' ρ' S' l' g' H'=>?_)
  cases b with
  | true=>exact ih c hc ok σ μ' ρ' m s' Q E s₀ ρ₀ S' l' g' hn H'
  | false=>exact H' s' ρ' S' l' g'
theorem zxp {κ:KK} {n:Nat} {sc:Scope}:∀ {es Fs},STs κ n sc es Fs→∀ c,c.sc=sc→zbx n c→∀ σ μ ρ m s Q E s₀ ρ₀,Stt κ c s σ ρ μ m→zaG c ρ₀ s₀ s→zbj s₀ ρ₀ ρ→c.nb≤ρ₀.length→za6 κ c s₀ ρ₀ E (kOr Fs σ μ) (zlb κ c s₀ ρ₀ σ m Q)→wpAny (model pg κ.w) c.A (allTrue .Or es c.env) Q E s:=by
 intro es Fs x
 induction x with
 | nil=>intro c _ _ σ μ ρ m s Q E s₀ ρ₀ S l g hn H;exact wpAny_allTrue_Or_nil (H s ρ S l g)
 | cons h _ ih=>
  intro c hc ok σ μ ρ m s Q E s₀ ρ₀ S l g hn H
  refine wpAny_allTrue_Or_cons (h.next hc ok S l g hn H fun b μ' s' ρ' S' l' g' H'=>?_)
  cases b with
  | true=>exact H' s' ρ' S' l' g'
  | false=>exact ih c hc ok σ μ' ρ' m s' Q E s₀ ρ₀ S' l' g' hn H'
theorem zxq {κ:KK} {n:Nat} {sc:Scope} {es:List Expr} {pos:Pos} {Fs:List TF} (h:STs κ n sc es Fs):ST κ n sc (.BoolOp .And es pos) (zbt Fs):=by
 refine ⟨?_⟩
 intro c hc ok σ μ ρ m s Q E S H
 exact wpAny_isTrue_BoolOp (zvI h c hc ok σ μ ρ m s Q E s ρ S .refl .refl S.nbρ H)
theorem zy4 {κ:KK} {n:Nat} {sc:Scope} {es:List Expr} {pos:Pos} {Fs:List TF} (h:STs κ n sc es Fs):ST κ n sc (.BoolOp .Or es pos) (kOr Fs):=by
 refine ⟨?_⟩
 intro c hc ok σ μ ρ m s Q E S H
 exact wpAny_isTrue_BoolOp (zxp h c hc ok σ μ ρ m s Q E s ρ S .refl .refl S.nbρ H)
inductive SEs (κ:KK) (n:Nat) (sc:Scope):List Expr→List EF→Prop
 | nil:SEs κ n sc [] []
 | cons {e es F Fs}:SE κ n sc e F→SEs κ n sc es Fs→SEs κ n sc (e :: es) (F :: Fs)
noncomputable def zcu:List EF→List TF
 | []=>[]
 | F :: Fs=>tst F :: zcu Fs
theorem SE.nextB {κ:KK} {n:Nat} {sc:Scope} {e:Expr} {F:EF} (x:SE κ n sc e F) {c:Cx} (hc:c.sc=sc) (ok:zbx n c) {σ:Loc} {μ:Mem} {ρ:List (List Addr)} {m:Str→Option Value} {s:Shared} {Q:Value→Shared→Prop} {E:Value→Shared→Prop} {s₀:Shared} {ρ₀:List (List Addr)}
  (S:Stt κ c s σ ρ μ m) (l:zaG c ρ₀ s₀ s) (g:zbj s₀ ρ₀ ρ) (hn:c.nb≤ρ₀.length) {β:Type} {G:Bool→Mem→RX β} {K:β→Mem→Prop} (h:za6 κ c s₀ ρ₀ E ((tst F σ μ).bind G) K)
  (k:∀ b μ' s' ρ',Stt κ c s' σ ρ' μ' m→zaG c ρ₀ s₀ s'→zbj s₀ ρ₀ ρ'→za6 κ c s₀ ρ₀ E (G b μ') K→Q (.bool b) s') :
  wpAny (model pg κ.w) c.A (eval e c.env) Q E s:=by
 have e1:((F σ μ).bind toB).bind G=(F σ μ).bind fun v μ=>(toB v μ).bind G:=by cases F σ μ <;> rfl
 unfold tst at h
 rw [e1] at h
 refine x.next hc ok S l g hn h fun v μ' s' ρ' val S' l' g' x_ x_ r H=>?_
 cases v with
 | ref k=>exact H.elim
 | d x=>
  cases x with
  | bool b=>rw [r.d_inv.bool_inv];exact k b μ' s' ρ' S' l' g' H
  | _=>exact H.elim
theorem zvJ {κ:KK} {n:Nat} {sc:Scope} {pos:Pos}:∀ {es Fs},SEs κ n sc es Fs→es≠[]→∀ c,c.sc=sc→zbx n c→∀ σ μ ρ m s Q E s₀ ρ₀,Stt κ c s σ ρ μ m→zaG c ρ₀ s₀ s→zbj s₀ ρ₀ ρ→c.nb≤ρ₀.length→za6 κ c s₀ ρ₀ E (kB (zbt (zcu Fs)) σ μ) (zfP κ c s₀ ρ₀ σ m Q)→
  wpAny (model pg κ.w) c.A (boolOp pos .And (evalEach es c.env)) Q E s:=by
 intro es Fs x
 induction x with
 | nil=>intro h;exact (h rfl).elim
 | @cons e es F Fs h xs ih=>
  intro _ c hc ok σ μ ρ m s Q E s₀ ρ₀ S l g hn H
  have H':za6 κ c s₀ ρ₀ E ((tst F σ μ).bind fun b μ=>(if b then zbt (zcu Fs) σ μ else .ok false μ).bind fun b μ=>.ok (.d (.bool b)) μ) (zfP κ c s₀ ρ₀ σ m Q):=by
   have e1:kB (zbt (zcu (F :: Fs))) σ μ=((tst F σ μ).bind fun b μ=>(if b then zbt (zcu Fs) σ μ else .ok false μ).bind fun b μ=>.ok (.d (.bool b)) μ):=by
    show ((tst F σ μ).bind _).bind _=_
    cases tst F σ μ <;> rfl
   rw [← e1];exact H
  cases xs with
  | nil=>
   show wpAny _ _ (eval e c.env) Q E s
   refine h.nextB hc ok S l g hn H' fun b μ' s' ρ' S' l' g' H2=>?_
   cases b <;> exact H2 s' ρ' _ S' l' g' (.d (.bool _))
  | @cons e2 es2 F2 Fs2 h2 xs2=>
   show wpAny _ _ (do
    let v ← eval e c.env
    standAt pos
    let t ← holding [v] (truthy v)
    match BoolOp.And,t with
    | .And,false | .Or,true=>pure v
    | _,_=>boolOp pos .And (evalEach (e2 :: es2) c.env)) Q E s
   refine wpAny_bind (h.nextB hc ok S l g hn H' fun b μ' s' ρ' S' l' g' H2=>?_)
   refine wpAny_bind (wpAny_standAt (wpAny_bind (wpAny_holding (wpAny_truthy_bool ?_))))
   cases b with
   | true=>exact ih (by simp) c hc ok σ μ' ρ' m s' Q E s₀ ρ₀ S' l' g' hn H2
   | false=>exact wpAny_pure (H2 s' ρ' _ S' l' g' (.d (.bool _)))
theorem zxr {κ:KK} {n:Nat} {sc:Scope} {pos:Pos}:∀ {es Fs},SEs κ n sc es Fs→es≠[]→∀ c,c.sc=sc→zbx n c→∀ σ μ ρ m s Q E s₀ ρ₀,Stt κ c s σ ρ μ m→zaG c ρ₀ s₀ s→zbj s₀ ρ₀ ρ→c.nb≤ρ₀.length→za6 κ c s₀ ρ₀ E (kB (kOr (zcu Fs)) σ μ) (zfP κ c s₀ ρ₀ σ m Q)→
  wpAny (model pg κ.w) c.A (boolOp pos .Or (evalEach es c.env)) Q E s:=by
 intro es Fs x
 induction x with
 | nil=>intro h;exact (h rfl).elim
 | @cons e es F Fs h xs ih=>
  intro _ c hc ok σ μ ρ m s Q E s₀ ρ₀ S l g hn H
  have H':za6 κ c s₀ ρ₀ E ((tst F σ μ).bind fun b μ=>(if b then .ok true μ else kOr (zcu Fs) σ μ).bind fun b μ=>.ok (.d (.bool b)) μ) (zfP κ c s₀ ρ₀ σ m Q):=by
   have e1:kB (kOr (zcu (F :: Fs))) σ μ=((tst F σ μ).bind fun b μ=>(if b then .ok true μ else kOr (zcu Fs) σ μ).bind fun b μ=>.ok (.d (.bool b)) μ):=by
    show ((tst F σ μ).bind _).bind _=_
    cases tst F σ μ <;> rfl
   rw [← e1];exact H
  cases xs with
  | nil=>
   show wpAny _ _ (eval e c.env) Q E s
   refine h.nextB hc ok S l g hn H' fun b μ' s' ρ' S' l' g' H2=>?_
   cases b <;> exact H2 s' ρ' _ S' l' g' (.d (.bool _))
  | @cons e2 es2 F2 Fs2 h2 xs2=>
   show wpAny _ _ (do
    let v ← eval e c.env
    standAt pos
    let t ← holding [v] (truthy v)
    match BoolOp.Or,t with
    | .And,false | .Or,true=>pure v
    | _,_=>boolOp pos .Or (evalEach (e2 :: es2) c.env)) Q E s
   refine wpAny_bind (h.nextB hc ok S l g hn H' fun b μ' s' ρ' S' l' g' H2=>?_)
   refine wpAny_bind (wpAny_standAt (wpAny_bind (wpAny_holding (wpAny_truthy_bool ?_))))
   cases b with
   | true=>exact wpAny_pure (H2 s' ρ' _ S' l' g' (.d (.bool _)))
   | false=>exact ih (by simp) c hc ok σ μ' ρ' m s' Q E s₀ ρ₀ S' l' g' hn H2
theorem zxs {κ:KK} {n:Nat} {sc:Scope} {es:List Expr} {pos:Pos} {Fs:List EF} (h0:es≠[]) (h:SEs κ n sc es Fs):SE κ n sc (.BoolOp .And es pos) (kB (zbt (zcu Fs))):=by
 refine ⟨?_⟩
 intro c hc ok σ μ ρ m s Q E S H
 show wpAny _ _ (boolOp pos .And (evalEach es c.env)) Q E s
 exact zvJ h h0 c hc ok σ μ ρ m s Q E s ρ S .refl .refl S.nbρ H
theorem zy5 {κ:KK} {n:Nat} {sc:Scope} {es:List Expr} {pos:Pos} {Fs:List EF} (h0:es≠[]) (h:SEs κ n sc es Fs):SE κ n sc (.BoolOp .Or es pos) (kB (kOr (zcu Fs))):=by
 refine ⟨?_⟩
 intro c hc ok σ μ ρ m s Q E S H
 show wpAny _ _ (boolOp pos .Or (evalEach es c.env)) Q E s
 exact zxr h h0 c hc ok σ μ ρ m s Q E s ρ S .refl .refl S.nbρ H
theorem zxt {κ:KK} {n:Nat} {sc:Scope} {e:Expr} {pos:Pos} {F:EF} (h:SE κ n sc e F):SE κ n sc (.UnaryOp .Not e pos) (kB (zdd (tst F))):=by
 refine ⟨?_⟩
 intro c hc ok σ μ ρ m s Q E S H
 have H':za6 κ c s ρ E ((tst F σ μ).bind fun b μ=>.ok (.d (.bool !b)) μ) (zfP κ c s ρ σ m Q):=by
  have e1:kB (zdd (tst F)) σ μ=((tst F σ μ).bind fun b μ=>.ok (.d (.bool !b)) μ):=by
   show ((tst F σ μ).bind _).bind _=_
   cases tst F σ μ <;> rfl
  rw [← e1];exact H
 refine wpAny_UnaryOp (h.nextB hc ok S .refl .refl S.nbρ H' fun b μ' s' ρ' S' l' g' H2=>?_)
 exact not_value (wpAny_truthy_bool (H2 s' ρ' _ S' l' g' (.d (.bool _))))
noncomputable def zcW (F:EF):EF:=fun σ μ=>(F σ μ).bind fun v μ=>v.gI.elim .stuck fun i=>.ok (.d (.int (-i))) μ
theorem zxu {κ:KK} {n:Nat} {sc:Scope} {e:Expr} {pos:Pos} {F:EF} (h:SE κ n sc e F):SE κ n sc (.UnaryOp .USub e pos) (zcW F):=by
 refine ⟨?_⟩
 intro c hc ok σ μ ρ m s Q E S H
 refine wpAny_UnaryOp (h.next hc ok S .refl .refl S.nbρ H fun v μ' s' ρ' val S' l' g' x_ x_ r H'=>?_)
 obtain ⟨i,e,H'⟩:=zbr H'
 cases V.gI_s e
 obtain ⟨t,rfl⟩:=r.d_inv.int_inv
 obtain ⟨S2,l2⟩:=S'.keeps (s':={ s' with toks:=s'.toks+1 }) (fun x_ x_ e=>e)
 exact PyProof.Rows.neg_int (H' _ _ _ S2 (l'.trans g' l2) g' (.d (.int _ _)))
noncomputable def zcO (c1 c2:CmpOp) (F G H:EF):TF:=fun σ μ=>(F σ μ).bind fun a μ1=>(G σ μ1).bind fun b μ2=>((zgn μ2 a b (opC c1)).bind toB).bind fun t μ2=>
 if t then (H σ μ2).bind fun d μ3=>(zgn μ3 b d (opC c2)).bind toB else .ok false μ2
set_option tactic.hygienic true in
theorem zm9 {κ:KK} {c:Cx} {s:Shared} {ρ:List (List Addr)} {E:Value→Shared→Prop} {β:Type} {G:Bool→Mem→RX β} {K:β→Mem→Prop} {μ:Mem} {a b:V} {cop:CmpOp} (h:za6 κ c s ρ E (((zgn μ a b (opC cop)).bind toB).bind G) K) :
  ∃ x y z,res μ a=some x∧res μ b=some y∧zfR cop x y=some z∧za6 κ c s ρ E (G z μ) K:=by
 unfold zgn at h
 split at h
 ·rename_i x y h1 h2
  cases q:zfR cop x y with
  | none=>rw [opC,q] at h;exact h.elim
  | some z=>rw [opC,q] at h;exact ⟨x,y,z,h1,h2,q,h⟩
 ·exact h.elim
theorem zna {κ:KK} (W:WF κ) {n:Nat} {sc:Scope} {e1 e2 e3:Expr} {pos:Pos} {F G H:EF} {c1 c2:CmpOp} (h1:SE κ n sc e1 F) (h2:SE κ n sc e2 G) (h3:SE κ n sc e3 H)
  {c:Cx} (hc:c.sc=sc) (ok:zbx n c) {σ:Loc} {μ:Mem} {ρ:List (List Addr)} {m:Str→Option Value} {s:Shared} {Q:Bool→Shared→Prop} {E:Value→Shared→Prop} (S:Stt κ c s σ ρ μ m)
  (HH:za6 κ c s ρ E (zcO c1 c2 F G H σ μ) (zlb κ c s ρ σ m Q)) :
  wpAny (model pg κ.w) c.A (eval e1 c.env) (fun a s₁=>wpAny (model pg κ.w) c.A (eval e2 c.env) (fun b s₂=>wpAny (model pg κ.w) c.A (compareOp c1 a b) (fun t s₃=>∃ z,t = .bool z∧if z then wpAny (model pg κ.w) c.A (eval e3 c.env) (fun d s₄=>wpAny (model pg κ.w) c.A (compareOp c2 b d) (fun t s₅=>∃ z,t = .bool z∧Q z s₅) E s₄) E s₃ else Q false s₃) E s₂) E s₁) E s:=by
 refine h1.next hc ok S .refl .refl S.nbρ HH fun v1 μ1 s1 ρ1 val1 S1 l1 g1 x_ x_ r1 H1=>?_
 refine h2.next hc ok S1 l1 g1 S.nbρ H1 fun v2 μ2 s2 ρ2 val2 S2 l2 g2 hi hr r2 H2=>?_
 obtain ⟨x,y,z,q1,q2,q,H3⟩:=zm9 H2
 refine zof c1 x y z q _ _ _ _ _ _ _ (zdQ.of W ok S2) ((r1.mono hi hr).view S2 q1) (r2.view S2 q2) ?_
 intro s3 v ⟨k1,k3,k4⟩ rr
 obtain ⟨S3,l3⟩:=S2.keeps k1 k3 k4
 have:=(rr (fun x_ x_=>True) (fun x_ x_ x_=>trivial) (fun x_ x_ x_ x_=>trivial)).bool_inv
 subst this
 refine ⟨z,rfl,?_⟩
 cases z with
 | false=>exact H3 s3 ρ2 S3 (l2.trans g2 l3) g2
 | true=>
  simp only [if_true] at H3 ⊢
  refine h3.next hc ok S3 (l2.trans g2 l3) g2 S.nbρ H3 fun v3 μ3 s4 ρ4 val3 S4 l4 g4 hi4 hr4 r4 H4=>?_
  have H4':za6 κ c s ρ E (((zgn μ3 v2 v3 (opC c2)).bind toB).bind .ok) (zlb κ c s ρ σ m Q):=by rw [RX.bind_ok];exact H4
  obtain ⟨x',y',z',q1',q2',q',H5⟩:=zm9 H4'
  refine zof c2 x' y' z' q' _ _ _ _ _ _ _ (zdQ.of W ok S4) (((r2.mono (l3.im .refl) (fun x_ x_ e=>e)).mono hi4 hr4).view S4 q1') (r4.view S4 q2') ?_
  intro s5 v ⟨k1,k3,k4⟩ rr
  obtain ⟨S5,l5⟩:=S4.keeps k1 k3 k4
  have:=(rr (fun x_ x_=>True) (fun x_ x_ x_=>trivial) (fun x_ x_ x_ x_=>trivial)).bool_inv
  subst this
  exact ⟨_,rfl,H5 s5 ρ4 S5 (l4.trans g4 l5) g4⟩
theorem zxv {M:Model} {A:Around} {E:Value→Shared→Prop} {s:Shared} {vs keep:List Value} {Q:Unit→Shared→Prop} (h:Q () s):wpAny M A (release vs keep) Q E s:=fun Γ p x_=>by rw [Sem.wp_release];exact h
theorem zxw {M:Model} {A:Around} {E:Value→Shared→Prop} {s:Shared} {vs:List Value} {m:Sem Value} {Q:Value→Shared→Prop} (h:wpAny M A m Q E s):wpAny M A (operate vs m) Q E s:=fun Γ p hΓ=>by rw [Sem.wp_operate];exact h Γ p hΓ
theorem zvK {κ:KK} (W:WF κ) {n:Nat} {sc:Scope} {e1 e2 e3:Expr} {pos:Pos} {F G H:EF} {c1 c2:CmpOp} (hm:behindInMarks c2 e3=false) (h1:SE κ n sc e1 F) (h2:SE κ n sc e2 G) (h3:SE κ n sc e3 H) :
  ST κ n sc (.Compare e1 [c1,c2] [e2,e3] pos) (zcO c1 c2 F G H):=by
 refine ⟨?_⟩
 intro c hc ok σ μ ρ m s Q E S HH
 show wpAny _ _ (do
  let left ← eval e1 c.env
  let rv ← holding [left] (eval e2 c.env)
  standAt pos
  let t ← holding [left,rv] (compareOp c1 left rv)
  release [left,rv] [t]
  if ← holding [t,rv] (truthy t) then (do
   let rv2 ← holding [rv] (markedBehindIn c2 e3 (eval e3 c.env))
   standAt pos
   let t2 ← operate [rv,rv2] (compareOp c2 rv rv2)
   holding [t2] (truthy t2)) else pure false) Q E s
 rw [markedBehindIn_of_false hm]
 refine wpAny_bind (wpAny_mono (zna (pos:=pos) W h1 h2 h3 hc ok S HH) (fun a s₁ h₁=>wpAny_bind (wpAny_holding (wpAny_mono h₁ (fun b s₂ h₂=>wpAny_bind (wpAny_standAt (wpAny_bind (wpAny_holding (wpAny_mono h₂ (fun t s₃ h₃=>?_) fun x_ x_ e=>e))))) fun x_ x_ e=>e))) fun x_ x_ e=>e)
 obtain ⟨z,rfl,h₃⟩:=h₃
 refine wpAny_bind (zxv (wpAny_bind (wpAny_holding (wpAny_truthy_bool ?_))))
 cases z with
 | false=>exact wpAny_pure h₃
 | true=>
  refine wpAny_bind (wpAny_holding (wpAny_mono h₃ (fun d s₄ h₄=>wpAny_bind (wpAny_standAt (wpAny_bind (zxw (wpAny_mono h₄ (fun t s₅ h₅=>?_) (fun x_ x_ e=>e)))))) fun x_ x_ e=>e))
  obtain ⟨z,rfl,h₅⟩:=h₅
  exact wpAny_holding (wpAny_truthy_bool h₅)
theorem zvL {κ:KK} (W:WF κ) {n:Nat} {sc:Scope} {e1 e2 e3:Expr} {pos:Pos} {F G H:EF} {c1 c2:CmpOp} (hm:behindInMarks c2 e3=false) (h1:SE κ n sc e1 F) (h2:SE κ n sc e2 G) (h3:SE κ n sc e3 H) :
  SE κ n sc (.Compare e1 [c1,c2] [e2,e3] pos) (kB (zcO c1 c2 F G H)):=by
 refine ⟨?_⟩
 intro c hc ok σ μ ρ m s Q E S HH
 show wpAny _ _ (do
  let left ← eval e1 c.env
  let rv ← holding [left] (eval e2 c.env)
  standAt pos
  let t ← holding [left,rv] (compareOp c1 left rv)
  release [left,rv] [t]
  if ← holding [t,rv] (truthy t) then (do
   let rv2 ← holding [rv] (markedBehindIn c2 e3 (eval e3 c.env))
   standAt pos
   operate [rv,rv2] (compareOp c2 rv rv2)) else pure t) Q E s
 rw [markedBehindIn_of_false hm]
 have HH':za6 κ c s ρ E (zcO c1 c2 F G H σ μ) (zlb κ c s ρ σ m fun b s'=>Q (.bool b) s'):=by
  unfold kB at HH
  cases q:zcO c1 c2 F G H σ μ with
  | ok b μ'=>rw [q] at HH;exact fun s' ρ' S' l' g'=>HH s' ρ' _ S' l' g' (.d (.bool b))
  | exc x μ'=>rw [q] at HH;exact HH
  | stuck=>rw [q] at HH;exact HH
 refine wpAny_bind (wpAny_mono (zna (pos:=pos) W h1 h2 h3 hc ok S HH') (fun a s₁ h₁=>wpAny_bind (wpAny_holding (wpAny_mono h₁ (fun b s₂ h₂=>wpAny_bind (wpAny_standAt (wpAny_bind (wpAny_holding (wpAny_mono h₂ (fun t s₃ h₃=>?_) fun x_ x_ e=>e))))) fun x_ x_ e=>e))) fun x_ x_ e=>e)
 obtain ⟨z,rfl,h₃⟩:=h₃
 refine wpAny_bind (zxv (wpAny_bind (wpAny_holding (wpAny_truthy_bool ?_))))
 cases z with
 | false=>exact wpAny_pure h₃
 | true=>
  refine wpAny_bind (wpAny_holding (wpAny_mono h₃ (fun d s₄ h₄=>wpAny_bind (wpAny_standAt (zxw (wpAny_mono h₄ (fun t s₅ h₅=>?_) (fun x_ x_ e=>e))))) fun x_ x_ e=>e))
  obtain ⟨z,rfl,h₅⟩:=h₅
  exact h₅
noncomputable def ziI (kvs:List (Int×D)) (i:Int):Option D:=(kvs.find? fun p=>p.1=i).map (·.2)
noncomputable def zeW (kvs:List (List Nat×D)) (x:List Nat):Option D:=(kvs.find? fun p=>p.1=x).map (·.2)
noncomputable abbrev small (i:Int):Prop:=-1000000000≤i∧i < 1000000000
noncomputable def at? {α:Type} (l:List α) (i:Int):Option α:=(seqIndex? i l.length).bind (l[·]?)
noncomputable def zap (x y:D):Option D:=
 y.ifI (fun i=>x.ifL (fun ds=>if small i then at? ds i else none) <| x.ifT (fun ds=>if small i then at? ds i else none) <| x.ifS (fun x=>if small i then (at? x i).map fun c=>.str [c] else none) <|
  x.ifA (fun kvs=>ziI kvs i) none) <|
 y.ifS (fun k=>x.ifB (fun kvs=>zeW kvs k) none) none
theorem znZ {α:Type} {c:Prop} [Decidable c] {a:Option α} {z:α} (h:(if c then a else none)=some z):c∧a=some z:=by
 by_cases q:c
 ·exact ⟨q,(if_pos q).symm.trans h⟩
 ·exact nomatch (if_neg q).symm.trans h
theorem zaC.get {w:World} {I:SI} {ds:List D} {vs:List Value} {j:Nat} {d:D} (r:zaC w I ds vs) (h:ds[j]? = some d):∃ v,vs[j]? = some v∧Rd w I d v:=
 r.ind (P:=fun ds vs=>∀ j d,ds[j]? = some d→∃ v,vs[j]? = some v∧Rd w I d v) (fun x_ x_ h=>by simp at h) (fun a x_ ih j d h=>match j with
  | 0=>⟨_,rfl,Option.some.inj h▸a⟩
  | j+1=>ih j d h) j d h
theorem znb {w:World} {I:SI}:∀ {kvs:List (Int×D)} {kws:List (Int×Value)} {i:Int} {d:D},kws.map (·.1)=kvs.map (·.1)→zaC w I (kvs.map (·.2)) (kws.map (·.2))→ziI kvs i=some d→∃ v,valueAt kws i=some v∧Rd w I d v
 | [],_,_,_,_,_,h=>by simp [ziI] at h
 | (k,x) :: kvs,[],_,_,h,_,_=>by simp at h
 | (k,x) :: kvs,(k',v) :: kws,i,d,h,r,e=>by
  rw [List.map_cons,List.map_cons] at r
  cases r with
  | cons a b=>
  simp only [List.map_cons,List.cons.injEq] at h
  obtain ⟨rfl,h⟩:=h
  unfold ziI at e
  unfold valueAt
  rw [List.find?_cons] at e ⊢
  by_cases q:k' = i
  ·subst q;simp at e ⊢;subst e;exact a
  ·simp only [q,decide_false] at e ⊢
   exact znb h b e
theorem zjl {w:World} {I:SI}:∀ {kvs:List (List Nat×D)} {kws:List (Str×Value)} {i:List Nat} {d:D},kws.map (·.1)=kvs.map (fun p=>Mine.Internal.str p.1)→zaC w I (kvs.map (·.2)) (kws.map (·.2))→zeW kvs i=some d→∃ v,valueAt kws (Mine.Internal.str i)=some v∧Rd w I d v
 | [],_,_,_,_,_,h=>by simp [zeW] at h
 | (k,x) :: kvs,[],_,_,h,_,_=>by simp at h
 | (k,x) :: kvs,(k',v) :: kws,i,d,h,r,e=>by
  rw [List.map_cons,List.map_cons] at r
  cases r with
  | cons a b=>
  simp only [List.map_cons,List.cons.injEq] at h
  obtain ⟨rfl,h⟩:=h
  unfold zeW at e
  unfold valueAt
  rw [List.find?_cons] at e ⊢
  by_cases q:k=i
  ·subst q;simp at e ⊢;subst e;exact a
  ·have q':¬ Mine.Internal.str k=Mine.Internal.str i:=fun z=>q (by simpa [Mine.Internal.str] using z)
   simp only [q,q',decide_false] at e ⊢
   exact zjl h b e
theorem zbC.here {w:World} {s:Shared} {I:SI} {z:D} {Q:Value→Shared→Prop} {v:Value} (h:zbC w s I z Q) (r:Rd w I z v) {u:Nat}:Q v { s with toks:=u }:=h _ _ .tok fun J hJ x_=>r.mono hJ
theorem zoh {i:Int} {n j:Nat} (h:seqIndex? i n=some j):(0≤i∧j=i.toNat∧j < n)∨(i < 0∧-(n:Int)≤i∧j=(i+n).toNat∧j < n):=by
 unfold seqIndex? at h
 by_cases h0:i < 0
 ·simp only [h0,if_true] at h
  by_cases q:(decide (0≤i+n) && decide (i+n < n))=true
  ·rw [if_pos q] at h
   have:=Option.some.inj h
   simp only [Bool.and_eq_true,decide_eq_true_eq] at q
   right;lia
  ·rw [if_neg q] at h;cases h
 ·simp only [h0,if_false] at h
  by_cases q:(decide (0≤i) && decide (i < n))=true
  ·rw [if_pos q] at h
   have:=Option.some.inj h
   simp only [Bool.and_eq_true,decide_eq_true_eq] at q
   left;lia
  ·rw [if_neg q] at h;cases h
theorem zqu {w:World} {x y z:D} (h:zap x y=some z) {A:Around} {s:Shared} {I:SI} {a b:Value} {Q E:Value→Shared→Prop} (hc:zdQ A s I) (ha:Vw w s.heap I x a) (hb:Vw w s.heap I y b) (H:zbC w s I z Q)
  {value slice:Expr} (hs:subscripted slice false a b=operate [a,b] (getItem a b)):wpAny (model pg w) A (subscriptTail value slice a b) Q E s:=by
 rcases D.orI h with ⟨i,rfl,g⟩ | g
 ·obtain ⟨t,rfl⟩:=hb.int_inv
  rcases D.orL g with ⟨ds,rfl,k⟩ | g
  ·obtain ⟨hi,k⟩:=znZ k
   obtain ⟨l,vs,n,rfl,hl,hvs⟩:=ha.lst_inv hc.here
   obtain ⟨j,hj,hd⟩:=Option.bind_eq_some_iff.mp k
   obtain ⟨v,hv,r⟩:=hvs.get hd
   have e:=hvs.length
   refine tail_any hl.isList.typeIs slot_list_getitem.lookup ?_ hs
   have H':Q v s:=H.here r
   rcases zoh hj with ⟨h0,rfl,h1⟩ | ⟨h0,h1,rfl,h2⟩
   ·exact wpAny_getItem_list hl.isList h0 (by unfold small at hi;lia) (by simpa using hv) H'
   ·refine wpAny_getItem_list_neg hl.isList h0 (by simp;lia) (by unfold small at hi;lia) ?_ H'
    rw [e] at hv;simpa using hv
  rcases D.orT g with ⟨ds,rfl,k⟩ | g
  ·obtain ⟨hi,k⟩:=znZ k
   obtain ⟨l,vs,n,rfl,hl,hvs⟩:=ha.tup_inv hc.here
   obtain ⟨j,hj,hd⟩:=Option.bind_eq_some_iff.mp k
   obtain ⟨v,hv,r⟩:=hvs.get hd
   have e:=hvs.length
   have ht:IsTup s.heap l vs.toArray:=⟨_,hl,rfl,n,rfl⟩
   refine tail_any ht.typeIs slot_tuple_getitem.lookup ?_ hs
   have H':Q v s:=H.here r
   refine PyProof.Rows.getItem_tuple ht (by unfold small at hi;lia) (by unfold small at hi;lia) (j:=j) (by rw [e] at hj;simpa using hj) (by simpa using hv) H'
  rcases D.orS g with ⟨x,rfl,k⟩ | g
  ·obtain ⟨hi,k⟩:=znZ k
   obtain ⟨u,rfl⟩:=ha.str_inv
   obtain ⟨c,hcc,rfl⟩:=Option.map_eq_some_iff.mp k
   refine tail_any (typeIs_str _ _ _) slot_str_getitem.lookup (PyProof.Rows.getItem_str (c:=c) ?_ ?_ (H.str (x:=[c]))) hs
   ·unfold small at hi;simp only [Bool.or_eq_false_iff,decide_eq_false_iff_not];lia
   ·rw [zbk];simpa [Mine.Internal.str,at?] using hcc
  obtain ⟨kvs,rfl,k⟩:=D.onA g
  obtain ⟨l,kws,rfl,hz,hd,hk,hvs⟩:=ha.dcI_inv hc.here
  obtain ⟨v,hv,r⟩:=znb hk hvs k
  exact tail_any (zcJ hd).typeIs slot_dict_getitem.lookup (wpAny_getItem_of (intKind_is pg w _ t) (zcJ hd) hv (H.here r)) hs
 ·obtain ⟨x,rfl,g⟩:=D.onS g
  obtain ⟨t,rfl⟩:=hb.str_inv
  obtain ⟨kvs,rfl,k⟩:=D.onB g
  obtain ⟨l,kws,rfl,hz,hd,hk,hvs⟩:=ha.dcS_inv hc.here
  obtain ⟨v,hv,r⟩:=zjl hk hvs k
  exact tail_any (zcJ hd).typeIs slot_dict_getitem.lookup (wpAny_getItem_of (strKind_is pg w _ t) (zcJ hd) hv (H.here r)) hs
theorem zvM {κ:KK} (W:WF κ) {n:Nat} {sc:Scope} {e1 e2:Expr} {pos:Pos} {F G:EF} (hs:∀ a b,subscripted e2 false a b=operate [a,b] (getItem a b)) (h1:SE κ n sc e1 F) (h2:SE κ n sc e2 G) :
  SE κ n sc (.Subscript e1 e2 pos) (zai zap F G):=by
 refine ⟨?_⟩
 intro c hc ok σ μ ρ m s Q E S H
 refine Subscript_ (h1.next hc ok S .refl .refl S.nbρ H fun v1 μ1 s1 ρ1 val1 S1 l1 g1 x_ x_ r1 H1=>?_)
 refine h2.next hc ok S1 l1 g1 S.nbρ H1 fun v2 μ2 s2 ρ2 val2 S2 l2 g2 hi hr r2 H2=>?_
 obtain ⟨x,y,z,q1,q2,q,H3⟩:=zlc H2
 exact zqu q (zdQ.of W ok S2) ((r1.mono hi hr).view S2 q1) (r2.view S2 q2) (S2.post l2 g2 H3) (hs _ _)
noncomputable def slc {α:Type} (l:List α) (lo hi:Option Int):List α:=(l.drop (lo.elim 0 (clipAt l.length))).take (hi.elim l.length (clipAt l.length) - lo.elim 0 (clipAt l.length))
noncomputable def zeX (x:D) (lo hi:Option Int):Option D:=match x with
 | .str x=>if x.length≤16777216 then some (.str (slc x lo hi)) else none
 | .lst ds=>if ds.length≤16777216 then some (.lst (slc ds lo hi)) else none
 | _=>none
theorem zoi (x:List Nat) (lo hi:Option Int):(Builtin.Str.strSliceIndices lo hi 1 x.length).filterMap (x.toArray[·]?)=slc x lo hi:=by
 have e:Builtin.Str.strSliceIndices lo hi 1 x.length=sliceRange ((lo.elim 0 (clipAt x.length):Nat):Int) ((hi.elim x.length (clipAt x.length):Nat):Int) 1:=by
  unfold Builtin.Str.strSliceIndices
  cases lo <;> cases hi <;> simp [clipAt_cast]
 rw [e,sliceRange_one,pick_run]
 rfl
theorem zxx {α:Type} (l:List α) (lo hi:Option Int):(slc l lo hi).length≤l.length:=by
 unfold slc
 rw [List.length_take,List.length_drop];lia
theorem zaC.drop {w:World} {I:SI} (k:Nat) {ds:List D} {vs:List Value} (h:zaC w I ds vs):zaC w I (ds.drop k) (vs.drop k):=
 h.ind (P:=fun ds vs=>∀ k,zaC w I (ds.drop k) (vs.drop k)) (fun _=>by rw [List.drop_nil,List.drop_nil];exact .nil) (fun a as ih k=>Nat.casesOn (motive:=fun k=>zaC w I ((_ :: _).drop k) ((_ :: _).drop k)) k (.cons a as) ih) k
theorem zaC.take {w:World} {I:SI} (k:Nat) {ds:List D} {vs:List Value} (h:zaC w I ds vs):zaC w I (ds.take k) (vs.take k):=
 h.ind (P:=fun ds vs=>∀ k,zaC w I (ds.take k) (vs.take k)) (fun _=>by rw [List.take_nil,List.take_nil];exact .nil) (fun a as ih k=>Nat.casesOn (motive:=fun k=>zaC w I ((_ :: _).take k) ((_ :: _).take k)) k .nil fun k=>.cons a (ih k)) k
theorem zaC.slc {w:World} {I:SI} {ds:List D} {vs:List Value} (h:zaC w I ds vs) (lo hi:Option Int):zaC w I (slc ds lo hi) (slc vs lo hi):=by
 unfold Mine.Internal.slc
 rw [h.length]
 exact (h.drop _).take _
theorem zi9 (vs:List Value) (lo hi:Option Int):slicePick vs.toArray lo hi none=(slc vs lo hi).toArray:=by
 rw [slicePick_plain];simp [slc]
noncomputable def zbG (v:Option (Int×Tok)):Option Int:=v.map (·.1)
set_option tactic.hygienic true in
theorem ztV {w:World} {x z:D} {lo hi:Option (Int×Tok)} (h:zeX x (zbG lo) (zbG hi)=some z) {A:Around} {s:Shared} {I:SI} {a:Value} {sl:Addr} {Q E:Value→Shared→Prop} (hc:zdQ A s I) (ha:Vw w s.heap I x a)
  (hsl:s.heap.get? sl=some { cls:=.type "slice",data:=.fields #[partValue lo,partValue hi,.none] }) (H:zbC w s I z Q)
  {value slice:Expr} {ops:List Value} (hs:subscripted slice false a (.ref sl)=operate ops (getItem a (.ref sl))):wpAny (model pg w) A (subscriptTail value slice a (.ref sl)) Q E s:=by
 unfold zeX at h
 split at h
 ·split at h
  ·cases h
   rename_i x hx
   obtain ⟨u,rfl⟩:=ha.str_inv
   refine tail_any (typeIs_str _ _ _) slot_str_getitem.lookup ?_ hs
   refine wpAny_getItem_str_slice (l:=lo) (u:=hi) (st:=none) ⟨_,hsl,rfl,rfl⟩ rfl ?_
   unfold sliceMade
   have e1:((slicePicked (Mine.Internal.str x) lo hi none).filterMap ((Mine.Internal.str x).cps[·]?))=slc x (zbG lo) (zbG hi):=by
    unfold slicePicked
    have:=zoi x (zbG lo) (zbG hi)
    rw [zbk];exact this
   by_cases q:(((none:Option (Int×Tok)).map (·.1)).getD 1 == 1 && (slicePicked (Mine.Internal.str x) lo hi none).length == (Mine.Internal.str x).length)=true
   ·rw [if_pos q]
    have e2:slc x (zbG lo) (zbG hi)=x:=by
     have hl:(slicePicked (Mine.Internal.str x) lo hi none).length=x.length:=by simpa [zbk] using q
     have:(slc x (zbG lo) (zbG hi)).length=x.length:=by
      rw [← e1]
      have e3:slicePicked (Mine.Internal.str x) lo hi none=sliceRange (((zbG lo).elim 0 (clipAt x.length):Nat):Int) (((zbG hi).elim x.length (clipAt x.length):Nat):Int) 1:=by
       unfold slicePicked Builtin.Str.strSliceIndices zbG
       rw [zbk]
       cases lo <;> cases hi <;> simp [clipAt_cast]
      rw [e3,sliceRange_one] at hl
      rw [e3,sliceRange_one,pick_run]
      simp only [List.length_map,List.length_range] at hl
      simp only [List.length_take,List.length_drop,Mine.Internal.str,List.toList_toArray]
      have hb:(zbG hi).elim x.length (clipAt x.length)≤x.length:=by
       cases (zbG hi) with
       | none=>exact Nat.le_refl _
       | some i=>show clipAt _ _≤_;unfold clipAt;lia
      lia
     unfold slc at this ⊢
     have hlen:(List.take ((zbG hi).elim x.length (clipAt x.length) - (zbG lo).elim 0 (clipAt x.length)) (List.drop ((zbG lo).elim 0 (clipAt x.length)) x)).length≤(List.drop ((zbG lo).elim 0 (clipAt x.length)) x).length:=by rw [List.length_take];lia
     rw [this,List.length_drop] at hlen
     by_cases hx0:x.length=0
     ·have:x=[]:=List.length_eq_zero_iff.mp hx0
      subst this;simp
     ·have h0:(zbG lo).elim 0 (clipAt x.length)=0:=by lia
      rw [h0] at this ⊢
      rw [List.drop_zero,List.length_take] at this
      rw [List.drop_zero]
      exact List.take_of_length_le (by lia)
    rw [e2] at H
    exact (H.str (x:=x):Q (.str (Mine.Internal.str x) u) { s with toks:=s.toks })
   ·rw [if_neg q,e1]
    refine ⟨?_,H.str⟩
    show (Mine.Internal.str _).length≤sizeLine
    rw [zbk,za7];have:=zxx x (zbG lo) (zbG hi);lia
  ·cases h
 ·split at h
  ·cases h
   rename_i ds hx
   obtain ⟨l,vs,n,rfl,hl,hvs⟩:=ha.lst_inv hc.here
   have e:=hvs.length
   refine tail_any hl.isList.typeIs slot_list_getitem.lookup ?_ hs
   have pv:∀ p:Option (Int×Tok),IsPart (partValue p) (zbG p):=fun p=>by cases p with | none=>exact .none | some q=>obtain ⟨i,t⟩:=q;exact .int i t
   refine wpAny_getItem_list_slice hl.isList ⟨_,hsl,rfl,rfl⟩ (pv lo) (pv hi) .none (by simp) ?_ (by simp [za7];lia)
   rw [zi9]
   exact H.new (o:={ cls:=.type "list",data:=.seq (slc vs (zbG lo) (zbG hi)).toArray }) (u:=s.toks) rfl fun J hJ hn=>.lst hn ⟨0,rfl⟩ ((hvs.mono hJ).slc _ _)
  ·cases h
 ·cases h
inductive SP (κ:KK) (n:Nat) (sc:Scope):Option Expr→Option EF→Prop
 | no:SP κ n sc none none
 | yes {e F}:SE κ n sc e F→SP κ n sc (some e) (some F)
noncomputable def toI:V→Mem→RX (Option Int)
 | .d (.int i),μ=>.ok (some i) μ
 | _,_=>.stuck
noncomputable def zfq:Option EF→Loc→Mem→RX (Option Int)
 | none=>fun x_ μ=>.ok none μ
 | some F=>fun σ μ=>(F σ μ).bind toI
noncomputable def zb5 (F:EF) (L H:Option EF):EF:=fun σ μ=>(F σ μ).bind fun a μ1=>(zfq L σ μ1).bind fun lo μ2=>(zfq H σ μ2).bind fun hi μ3=>match res μ3 a with
 | some x=>ofO (zeX x lo hi) μ3
 | none=>.stuck
set_option tactic.hygienic true in
theorem SP.next {κ:KK} {n:Nat} {sc:Scope} {e:Option Expr} {F:Option EF} (x:SP κ n sc e F) {c:Cx} (hc:c.sc=sc) (ok:zbx n c) {σ:Loc} {μ:Mem} {ρ:List (List Addr)} {m:Str→Option Value} {s:Shared} {Q:Value→Shared→Prop} {E:Value→Shared→Prop} {s₀:Shared} {ρ₀:List (List Addr)}
  (S:Stt κ c s σ ρ μ m) (l:zaG c ρ₀ s₀ s) (g:zbj s₀ ρ₀ ρ) (hn:c.nb≤ρ₀.length) {β:Type} {G:Option Int→Mem→RX β} {K:β→Mem→Prop} (h:za6 κ c s₀ ρ₀ E ((zfq F σ μ).bind G) K)
  (k:∀ (p:Option (Int×Tok)) μ' s' ρ',Stt κ c s' σ ρ' μ' m→zaG c ρ₀ s₀ s'→zbj s₀ ρ₀ ρ'→(∀ a o,Im s.heap ρ c.fr a o→Im s'.heap ρ' c.fr a o)→(∀ (k:Nat) l,ρ[k]? = some l→ρ'[k]? = some l)→za6 κ c s₀ ρ₀ E (G (zbG p) μ') K→Q (partValue p) s') :
  wpAny (model pg κ.w) c.A (evalPart e c.env) Q E s:=by
 cases x with
 | no=>exact wpAny_pure (k none μ s ρ S l g (fun x_ x_ e=>e) (fun x_ x_ e=>e) h)
 | yes x=>
  rename_i e F
  have e1:((F σ μ).bind toI).bind G=(F σ μ).bind fun v μ=>(toI v μ).bind G:=by cases F σ μ <;> rfl
  refine x.next hc ok S l g hn (by rw [← e1];exact h) fun v μ' s' ρ' val S' l' g' hi hr r H=>?_
  cases v with
  | ref k=>exact H.elim
  | d x=>
   cases x with
   | int i=>
    obtain ⟨t,rfl⟩:=r.d_inv.int_inv
    exact k (some (i,t)) μ' s' ρ' S' l' g' hi hr H
   | _=>exact H.elim
theorem ztW {κ:KK} (W:WF κ) {n:Nat} {sc:Scope} {e:Expr} {lo hi:Option Expr} {p pos:Pos} {F:EF} {L H:Option EF} (h1:SE κ n sc e F) (h2:SP κ n sc lo L) (h3:SP κ n sc hi H) :
  SE κ n sc (.Subscript e (.Slice lo hi none p) pos) (zb5 F L H):=by
 refine ⟨?_⟩
 intro c hc ok σ μ ρ m s Q E S HH
 refine Subscript_ (h1.next hc ok S .refl .refl S.nbρ HH fun v1 μ1 s1 ρ1 val1 S1 l1 g1 x_ x_ r1 H1=>?_)
 refine wpAny_Slice (h2.next hc ok S1 l1 g1 S.nbρ H1 fun p1 μ2 s2 ρ2 S2 l2 g2 i2 k2 H2=>?_)
 refine h3.next hc ok S2 l2 g2 S.nbρ H2 fun p2 μ3 s3 ρ3 S3 l3 g3 i3 k3 H3=>?_
 refine wpAny_pure ?_
 obtain ⟨S4,l4⟩:=S3.keeps (s':={ s3 with heap:=s3.heap.push { cls:=.type "slice",data:=.fields #[partValue p1,partValue p2,.none] } }) (fun x_ x_ e=>Heap.get?_push_of_some _ e)
 have r4:=((r1.mono i2 k2).mono i3 k3).mono (l4.im .refl) fun x_ x_ e=>e
 cases q1:res μ3 v1 with
 | none=>simp only [q1] at H3;exact H3.elim
 | some x=>
  simp only [q1] at H3
  cases q:zeX x (zbG p1) (zbG p2) with
  | none=>rw [q] at H3;exact H3.elim
  | some z=>
   rw [q] at H3
   exact ztV q (zdQ.of W ok S4) (r4.view S4 q1) (Heap.get?_push_size _ rfl) (S4.post (l3.trans g3 l4) g3 H3) rfl
inductive SEl (κ:KK) (n:Nat) (sc:Scope):List Expr→List EF→Prop
 | nil:SEl κ n sc [] []
 | cons {e es F Fs}:(∀ rest env,starEach (e :: rest) env=(false,eval e env) :: starEach rest env)→SE κ n sc e F→SEl κ n sc es Fs→SEl κ n sc (e :: es) (F :: Fs)
noncomputable def zbQ:List EF→Loc→Mem→RX (List V)
 | [],_,μ=>.ok [] μ
 | F :: Fs,σ,μ=>(F σ μ).bind fun v μ1=>(zbQ Fs σ μ1).bind fun vs μ2=>.ok (v :: vs) μ2
inductive RVs (w:World) (I:SI) (ρ:List (List Addr)):List V→List Value→Prop
 | nil:RVs w I ρ [] []
 | cons {v vs x xs}:RV w I ρ v x→RVs w I ρ vs xs→RVs w I ρ (v :: vs) (x :: xs)
theorem RVs.mono {w:World} {I J:SI} {ρ ρ':List (List Addr)} {vs:List V} {xs:List Value} (x:RVs w I ρ vs xs) (hIJ:∀ a ob,I a ob→J a ob) (hρ:∀ (k:Nat) l,ρ[k]? = some l→ρ'[k]? = some l):RVs w J ρ' vs xs:=by
 induction x with
 | nil=>exact .nil
 | cons a _ ih=>exact .cons (a.mono hIJ hρ) ih
theorem RVs.length {w:World} {I:SI} {ρ:List (List Addr)} {vs:List V} {xs:List Value} (x:RVs w I ρ vs xs):vs.length=xs.length:=by
 induction x with
 | nil=>rfl
 | cons _ _ ih=>simp [ih]
theorem RX.bind_bind {α β γ:Type} (r:RX α) (k:α→Mem→RX β) (k':β→Mem→RX γ):(r.bind k).bind k' = r.bind fun v μ=>(k v μ).bind k':=by cases r <;> rfl
set_option tactic.hygienic true in
theorem SEl.next {κ:KK} {n:Nat} {sc:Scope} {pos:Pos}:∀ {es:List Expr} {Fs:List EF},SEl κ n sc es Fs→∀ {c:Cx},c.sc=sc→zbx n c→∀ {σ:Loc} {μ:Mem} {ρ:List (List Addr)} {m:Str→Option Value} {s:Shared} {Q:List Value→Shared→Prop} {E:Value→Shared→Prop} {s₀:Shared} {ρ₀:List (List Addr)},
  Stt κ c s σ ρ μ m→zaG c ρ₀ s₀ s→zbj s₀ ρ₀ ρ→c.nb≤ρ₀.length→∀ {β:Type} {G:List V→Mem→RX β} {K:β→Mem→Prop},za6 κ c s₀ ρ₀ E ((zbQ Fs σ μ).bind G) K→
  (∀ vs μ' s' ρ' vals,Stt κ c s' σ ρ' μ' m→zaG c ρ₀ s₀ s'→zbj s₀ ρ₀ ρ'→(∀ a o,Im s.heap ρ c.fr a o→Im s'.heap ρ' c.fr a o)→(∀ (k:Nat) l,ρ[k]? = some l→ρ'[k]? = some l)→RVs κ.w (Im s'.heap ρ' c.fr) ρ' vs vals→vals.length=es.length→za6 κ c s₀ ρ₀ E (G vs μ') K→Q vals s')→
  wpAny (model pg κ.w) c.A (spliced (backTo pos (starEach es c.env))) Q E s:=by
 intro es Fs x
 induction x with
 | nil=>
  intro c hc ok σ μ ρ m s Q E s₀ ρ₀ S l g hn β G K h k
  exact wpAny_items_nil (k [] μ s ρ [] S l g (fun x_ x_ e=>e) (fun x_ x_ e=>e) .nil rfl h)
 | cons he hx _ ih=>
  intro c hc ok σ μ ρ m s Q E s₀ ρ₀ S l g hn β G K h k
  rename_i e es F Fs _
  simp only [zbQ,RX.bind_bind] at h
  refine wpAny_items_cons (hx.next hc ok S l g hn h fun v μ1 s1 ρ1 val S1 l1 g1 i1 k1 r1 H1=>?_) (he _ _)
  refine ih hc ok S1 l1 g1 hn H1 fun vs μ2 s2 ρ2 vals S2 l2 g2 i2 k2 r2 n2 H2=>?_
  exact k (v :: vs) μ2 s2 ρ2 (val :: vals) S2 l2 g2 (fun a o q=>i2 a o (i1 a o q)) (fun a o q=>k2 a o (k1 a o q)) (.cons (r1.mono i2 k2) r2) (by simp [n2]) H2
noncomputable def zc1:List V→Option (List D)
 | []=>some []
 | .d x :: vs=>(zc1 vs).map (x :: ·)
 | _ :: _=>none
theorem zjm {w:World} {I:SI} {ρ:List (List Addr)} {vs:List V} {xs:List Value} {ds:List D} (r:RVs w I ρ vs xs) (h:zc1 vs=some ds):zaC w I ds xs:=by
 induction r generalizing ds with
 | nil=>rw [← Option.some.inj h];exact .nil
 | @cons v _ _ _ a _ ih=>
  match v,a,h with
  | .d x,a,h=>
   obtain ⟨es,he,e⟩:=Option.map_eq_some_iff.mp h
   rw [← e]
   exact .cons a.d_inv (ih he)
noncomputable def zaW (Fs:List EF):EF:=fun σ μ=>(zbQ Fs σ μ).bind fun vs μ=>ofO ((zc1 vs).map .tup) μ
noncomputable def zbF (Fs:List EF):EF:=fun σ μ=>(zbQ Fs σ μ).bind fun vs μ=>ofO ((zc1 vs).map .lst) μ
theorem zxy {κ:KK} {n:Nat} {sc:Scope} {es:List Expr} {k:Nat} {pos:Pos} {Fs:List EF} (hl:es.length≤1000) (h:SEl κ n sc es Fs):SE κ n sc (.Tuple es k pos) (zaW Fs):=by
 refine ⟨?_⟩
 intro c hc ok σ μ ρ m s Q E S H
 refine PySem.wpAny_Tuple (h.next hc ok S .refl .refl S.nbρ H fun vs μ' s' ρ' vals S' l' g' x_ x_ r hn H'=>?_)
 cases q:zc1 vs with
 | none=>rw [q] at H';exact H'.elim
 | some ds=>
  rw [q] at H'
  have rd:=zjm r q
  refine ⟨by rw [za7];lia,?_⟩
  exact (S'.post l' g' H').new (o:={ cls:=.type "tuple",data:=.seq vals.toArray }) (u:=s'.toks) rfl fun J hJ hn=>.tup hn ⟨0,rfl⟩ (rd.mono hJ)
theorem zsf {κ:KK} {n:Nat} {sc:Scope} {es:List Expr} {pos:Pos} {Fs:List EF} (hl:es.length≤1000) (h:SEl κ n sc es Fs):SE κ n sc (.List es pos) (zbF Fs):=by
 refine ⟨?_⟩
 intro c hc ok σ μ ρ m s Q E S H
 refine PySem.wpAny_List (h.next hc ok S .refl .refl S.nbρ H fun vs μ' s' ρ' vals S' l' g' x_ x_ r hn H'=>?_)
 cases q:zc1 vs with
 | none=>rw [q] at H';exact H'.elim
 | some ds=>
  rw [q] at H'
  have rd:=zjm r q
  refine ⟨by rw [za7];lia,?_⟩
  exact (S'.post l' g' H').new (o:={ cls:=.type "list",data:=.seq vals.toArray }) (u:=s'.toks) rfl fun J hJ hn=>.lst hn ⟨0,rfl⟩ (rd.mono hJ)
theorem Stt.open {κ:KK} {c:Cx} {s s':Shared} {σ:Loc} {ρ:List (List Addr)} {μ:Mem} {m:Str→Option Value} (S:Stt κ c s σ ρ μ m) {l:List Addr} {o:MO} (hk:∀ b o,s.heap.get? b=some o→s'.heap.get? b=some o)
  (hg:s'.gens=s.gens) (ho:s'.os=s.os) (hn:l.Nodup) (hl:∀ a∈l,s.heap.get? a=none) (M:zcV κ s'.heap (Im s.heap ρ c.fr) o l) :
  Stt κ c s' σ (ρ ++ [l]) (μ ++ [o]) m∧zaG c ρ s s'∧zbj s ρ (ρ ++ [l]):=by
 have hM:zbj s ρ (ρ ++ [l]):=⟨[l],rfl,by simpa using hl⟩
 have hL:zaG c ρ s s':=⟨fun a o h=>⟨o,hk a o h⟩,fun a o h=>hk a o h.1⟩
 have hI:=S.inv
 have hne:∀ a∈l,a∉ρ.flatten ++ (c.fs m).map (·.L):=fun a ha q=>by obtain ⟨o,h⟩:=hI.has a q;rw [hl a ha] at h;cases h
 have hIm:=hL.im hM
 refine ⟨⟨⟨fun b o e=>hk b o (hI.keep b o e),fun f hf=>(hI.ns f hf).keep fun o=>hk _ o,?_,?_,hI.newF,by simp [hI.len],?_⟩,S.loc.mono hIm hM.get,by have:=S.nb;simp;lia,hg.trans S.gens,ho.trans S.os⟩,hL,hM⟩
 ·have h1:=hI.nodup
  rw [List.nodup_append] at h1 ⊢
  refine ⟨?_,h1.2.1,?_⟩
  ·rw [List.flatten_append,List.nodup_append]
   refine ⟨h1.1,by simpa using hn,fun a ha b hb e=>?_⟩
   subst e
   exact hne a (by simpa using hb) (List.mem_append_left _ ha)
  ·intro a ha b hb e
   subst e
   rw [List.flatten_append] at ha
   rcases List.mem_append.mp ha with ha | ha
   ·exact h1.2.2 a ha a hb rfl
   ·exact hne a (by simpa using ha) (List.mem_append_right _ hb)
 ·intro a ha
  rw [List.flatten_append] at ha
  rcases List.mem_append.mp ha with ha | ha
  ·exact hI.new a ha
  ·have h2:=hl a (by simpa using ha)
   cases q:κ.B.get? a with
   | none=>rfl
   | some o'=>rw [hI.keep a o' q] at h2;cases h2
 ·intro k o' hk'
  rcases Nat.lt_trichotomy k μ.length with h | h | h
  ·rw [List.getElem?_append_left h] at hk'
   obtain ⟨l',hl',M'⟩:=hI.objs k o' hk'
   exact ⟨l',by rw [List.getElem?_append_left (by rw [hI.len];exact h)];exact hl',M'.keep (fun a x_ ob e=>hk a ob e) hIm⟩
  ·subst h
   rw [List.getElem?_append_right (Nat.le_refl _)] at hk'
   simp at hk'
   subst hk'
   exact ⟨l,by rw [List.getElem?_append_right (by rw [hI.len];exact Nat.le_refl _)];simp [hI.len],M.keep (fun x_ x_ x_ e=>e) hIm⟩
  ·rw [List.getElem?_append_right (by lia)] at hk'
   have:1≤k - μ.length:=by lia
   rw [List.getElem?_eq_none (by simp;lia)] at hk'
   cases hk'
noncomputable def zdM (Fs:List EF):EF:=fun σ μ=>(zbQ Fs σ μ).bind fun vs μ=>match zc1 vs with
 | some ds=>.ok (.ref μ.length) (μ ++ [.list ds])
 | none=>.stuck
theorem zvN {κ:KK} {n:Nat} {sc:Scope} {es:List Expr} {pos:Pos} {Fs:List EF} (hl:es.length≤1000) (h:SEl κ n sc es Fs):SE κ n sc (.List es pos) (zdM Fs):=by
 refine ⟨?_⟩
 intro c hc ok σ μ ρ m s Q E S H
 refine PySem.wpAny_List (h.next hc ok S .refl .refl S.nbρ H fun vs μ' s' ρ' vals S' l' g' x_ x_ r hn H'=>?_)
 cases q:zc1 vs with
 | none=>rw [q] at H';exact H'.elim
 | some ds=>
  rw [q] at H'
  have rd:=zjm r q
  refine ⟨by rw [za7];lia,?_⟩
  have:=S'.open (s':={ s' with heap:=s'.heap.push { cls:=.type "list",data:=.seq vals.toArray } }) (l:=[s'.heap.objs.size]) (o:=.list ds) (fun x_ x_ e=>Heap.get?_push_of_some _ e) rfl rfl (by simp) (by simpa using zbu (Nat.le_refl _))
   (.list (Heap.get?_push_size _ rfl) ⟨0,rfl⟩ rd)
  obtain ⟨S2,l2,g2⟩:=this
  refine H' _ _ _ S2 (l'.trans g' l2) (g'.trans g2 l'.1) (.ref (l:=[]) ?_)
  rw [← S'.inv.len,List.getElem?_append_right (Nat.le_refl _)];simp
noncomputable def zim:EF:=fun x_ μ=>.ok (.ref μ.length) (μ ++ [.dcI []])
noncomputable def zgN:EF:=fun x_ μ=>.ok (.ref μ.length) (μ ++ [.dcS []])
theorem ze5.empty {K:Type} [DecidableEq K] {w:World} {knd:KeyKind pg w K}:ze5 knd { cls:=.type "dict",data:=.dict #[] } []:=
 ⟨⟨rfl,rfl,rfl⟩,⟨#[],0,rfl,fun e he=>by simp at he,.nil⟩,by simp⟩
theorem ziJ {κ:KK} (W:WF κ) {c:Cx} {s:Shared} {σ:Loc} {ρ:List (List Addr)} {μ:Mem} {m:Str→Option Value} (S:Stt κ c s σ ρ μ m) {o:MO} (ho:o = .dcI []∨o = .dcS []) :
  Stt κ c { s with heap:=s.heap.push { cls:=.type "dict",data:=.dict #[] } } σ (ρ ++ [[s.heap.objs.size]]) (μ ++ [o]) m∧zaG c ρ s { s with heap:=s.heap.push { cls:=.type "dict",data:=.dict #[] } }∧zbj s ρ (ρ ++ [[s.heap.objs.size]]):=by
 have hb:s.heap.objs.size≠sysModules:=by
  have h4:=S.inv.lt c.L (List.mem_append_right _ (by simp [Cx.fs]))
  have h3:=S.inv.newF ⟨c.L,.act c.env m⟩ (by simp [Cx.fs])
  have:=W.big
  intro e
  have h5:s.heap.objs.size=1:=e
  have h6:κ.B.objs.size < s.heap.objs.size:=Nat.lt_of_le_of_lt h3 h4
  lia
 refine S.open (s':={ s with heap:=s.heap.push { cls:=.type "dict",data:=.dict #[] } }) (l:=[s.heap.objs.size]) (o:=o) (fun x_ x_ e=>Heap.get?_push_of_some _ e) rfl rfl (by simp) (by simpa using zbu (Nat.le_refl _)) ?_
 rcases ho with rfl | rfl
 ·exact .dcI (kws:=[]) (Heap.get?_push_size _ rfl) (by simpa using hb) .empty rfl .nil
 ·exact .dcS (kws:=[]) (Heap.get?_push_size _ rfl) (by simpa using hb) .empty rfl .nil
theorem ztX {κ:KK} (W:WF κ) {n:Nat} {sc:Scope} {pos:Pos}:SE κ n sc (.Dict [] [] pos) zim:=by
 refine ⟨?_⟩
 intro c hc ok σ μ ρ m s Q E S H
 obtain ⟨S2,l2,g2⟩:=ziJ W S (.inl rfl)
 refine wpAny_Dict_empty (H _ _ _ S2 l2 g2 (.ref (l:=[]) ?_))
 rw [← S.inv.len,List.getElem?_append_right (Nat.le_refl _)];simp
theorem ztY {κ:KK} (W:WF κ) {n:Nat} {sc:Scope} {pos:Pos}:SE κ n sc (.Dict [] [] pos) zgN:=by
 refine ⟨?_⟩
 intro c hc ok σ μ ρ m s Q E S H
 obtain ⟨S2,l2,g2⟩:=ziJ W S (.inr rfl)
 refine wpAny_Dict_empty (H _ _ _ S2 l2 g2 (.ref (l:=[]) ?_))
 rw [← S.inv.len,List.getElem?_append_right (Nat.le_refl _)];simp
noncomputable def zax (a:Int):List Nat:=(Str.ofString (toString a)).cps.toList
theorem znc (a:Int):Str.ofString (toString a)=Mine.Internal.str (zax a):=(zdx _).symm
noncomputable def ze6 (a:Int):Bool:=decide (-4611686018427387904 < a) && decide (a < 4611686018427387904)
theorem zoj {a:Int} (h:ze6 a=true):a.natAbs.log2 < 1920:=by
 unfold ze6 at h
 rw [Bool.and_eq_true,decide_eq_true_eq,decide_eq_true_eq] at h
 rcases Nat.eq_zero_or_pos a.natAbs with h0 | h0
 ·rw [h0];decide
 ·have:a.natAbs.log2 < 62:=(Nat.log2_lt (Nat.ne_of_gt h0)).mpr (by lia)
  lia
noncomputable def zq9:V→Mem→RE
 | .d (.int a),μ=>if ze6 a then .ok (.d (.str (zax a))) μ else .stuck
 | .d (.str x),μ=>if x.length≤16777216 then .ok (.d (.str x)) μ else .stuck
 | _,_=>.stuck
noncomputable def zde (F:EF):EF:=fun σ μ=>(F σ μ).bind zq9
theorem zxz {κ:KK} {n:Nat} {sc:Scope} {e:Expr} {pos:Pos} {F:EF} (h:SE κ n sc e F):SE κ n sc (.FormattedValue e (-1) none pos) (zde F):=by
 refine ⟨?_⟩
 intro c hc ok σ μ ρ m s Q E S H
 refine wpAny_FormattedValue_plain (h.next hc ok S .refl .refl S.nbρ H fun v μ' s' ρ' val S' l' g' x_ x_ r H'=>?_)
 cases v with
 | ref k=>exact H'.elim
 | d x=>
  cases x with
  | int a=>
   obtain ⟨t,rfl⟩:=r.d_inv.int_inv
   simp only [zq9] at H'
   split at H'
   ·rename_i hf
    refine wpAny_formatField_int (zoj hf) ?_
    rw [znc]
    exact (S'.post l' g' H').str
   ·exact H'.elim
  | str x=>
   obtain ⟨t,rfl⟩:=r.d_inv.str_inv
   simp only [zq9] at H'
   split at H'
   ·rename_i hf
    exact wpAny_formatField_str ((S'.post l' g' H').str (u:=s'.toks)) (S'.post l' g' H').str (by rw [zbk];exact hf)
   ·exact H'.elim
  | _=>exact H'.elim
noncomputable def toS:V→Mem→RX (List Nat)
 | .d (.str x),μ=>.ok x μ
 | _,_=>.stuck
noncomputable def zcc:List EF→List Nat→EF
 | [],acc=>fun x_ μ=>.ok (.d (.str acc)) μ
 | F :: Fs,acc=>fun σ μ=>((F σ μ).bind toS).bind fun y μ=>if acc.length+y.length≤16777216 then zcc Fs (acc ++ y) σ μ else .stuck
set_option tactic.hygienic true in
theorem ztZ {κ:KK} {n:Nat} {sc:Scope}:∀ {es:List Expr} {Fs:List EF},SEs κ n sc es Fs→∀ {c:Cx},c.sc=sc→zbx n c→∀ {σ:Loc} {μ:Mem} {ρ:List (List Addr)} {m:Str→Option Value} {s:Shared} {Q:Value→Shared→Prop} {E:Value→Shared→Prop} {s₀:Shared} {ρ₀:List (List Addr)} {acc:List Nat},
  acc.length≤16777216→Stt κ c s σ ρ μ m→zaG c ρ₀ s₀ s→zbj s₀ ρ₀ ρ→c.nb≤ρ₀.length→za6 κ c s₀ ρ₀ E (zcc Fs acc σ μ) (zfP κ c s₀ ρ₀ σ m Q)→
  Joins (model pg κ.w) c.A E (evalEach es c.env) (Mine.Internal.str acc) (fun out s₁=>out.length≤sizeLine∧Q (.str out s₁.toks) { s₁ with toks:=s₁.toks+1 }) s:=by
 intro es Fs x
 induction x with
 | nil=>
  intro c hc ok σ μ ρ m s Q E s₀ ρ₀ acc ha S l g hn H
  exact ⟨by rw [zbk];exact ha,(S.post l g H).str⟩
 | cons h _ ih=>
  rename_i e es F Fs _
  intro c hc ok σ μ ρ m s Q E s₀ ρ₀ acc ha S l g hn H
  simp only [zcc,RX.bind_bind] at H
  show wpAny _ _ (eval e c.env) _ _ _
  refine h.next hc ok S l g hn H fun v μ1 s1 ρ1 val S1 l1 g1 x_ x_ r1 H1=>?_
  cases v with
  | ref k=>exact H1.elim
  | d x=>
   cases x with
   | str y=>
    obtain ⟨t,rfl⟩:=r1.d_inv.str_inv
    simp only [toS,RX.bind] at H1
    split at H1
    ·rename_i hf
     refine ⟨_,t,rfl,by rw [zha,zbk,List.length_append];exact hf,?_⟩
     rw [zha]
     exact ih hc ok (by rw [List.length_append];exact hf) S1 l1 g1 hn H1
    ·exact H1.elim
   | _=>exact H1.elim
theorem zsg {κ:KK} {n:Nat} {sc:Scope} {e1 e2:Expr} {es:List Expr} {pos:Pos} {Fs:List EF} (h:SEs κ n sc (e1 :: e2 :: es) Fs):SE κ n sc (.JoinedStr (e1 :: e2 :: es) pos) (zcc Fs []):=by
 refine ⟨?_⟩
 intro c hc ok σ μ ρ m s Q E S H
 exact wpAny_JoinedStr (ztZ h hc ok (by simp) S .refl .refl S.nbρ H)
inductive zfS (w:World) (h:Heap) (I:SI):List D→List Value→Prop
 | nil:zfS w h I [] []
 | cons {d ds v vs}:Vw w h I d v→zfS w h I ds vs→zfS w h I (d :: ds) (v :: vs)
noncomputable def zeG (μ:Mem):List V→Option (List D)
 | []=>some []
 | v :: vs=>(res μ v).bind fun x=>(zeG μ vs).map (x :: ·)
theorem zjn {κ:KK} {c:Cx} {s:Shared} {σ:Loc} {ρ:List (List Addr)} {μ:Mem} {m:Str→Option Value} (S:Stt κ c s σ ρ μ m) {vs:List V} {xs:List Value} {ds:List D} (r:RVs κ.w (Im s.heap ρ c.fr) ρ vs xs) (h:zeG μ vs=some ds):zfS κ.w s.heap (Im s.heap ρ c.fr) ds xs:=by
 induction r generalizing ds with
 | nil=>rw [← Option.some.inj h];exact .nil
 | cons a _ ih=>
  obtain ⟨x,hx,h⟩:=Option.bind_eq_some_iff.mp h
  obtain ⟨ds,hd,e⟩:=Option.map_eq_some_iff.mp h
  rw [← e]
  exact .cons (a.view S hx) (ih hd)
structure zeb (w:World) (f:Value) (op:List D→Option D):Prop where
 run:∀ ds z,op ds=some z→∀ (A:Around) (s:Shared) (I:SI) (us:List Value) (Q E:Value→Shared→Prop),zdQ A s I→zfS w s.heap I ds us→zbC w s I z Q→wpAny (model pg w) A (call f us) Q E s
noncomputable def zmB (μ:Mem) (vs:List V) (op:List D→Option D):RE:=match zeG μ vs with
 | some ds=>ofO (op ds) μ
 | none=>.stuck
noncomputable def zaI (op:List D→Option D) (Fs:List EF):EF:=fun σ μ=>(zbQ Fs σ μ).bind fun vs μ=>zmB μ vs op
set_option tactic.hygienic true in
theorem zld {κ:KK} {c:Cx} {s:Shared} {ρ:List (List Addr)} {E:Value→Shared→Prop} {K:V→Mem→Prop} {μ:Mem} {vs:List V} {op:List D→Option D} (h:za6 κ c s ρ E (zmB μ vs op) K):∃ ds z,zeG μ vs=some ds∧op ds=some z∧K (.d z) μ:=by
 unfold zmB at h
 split at h
 ·rename_i ds hd
  cases q:op ds with
  | none=>rw [q] at h;exact h.elim
  | some z=>rw [q] at h;exact ⟨ds,z,hd,q,h⟩
 ·exact h.elim
theorem SEl.plain {κ:KK} {n:Nat} {sc:Scope} {pos:Pos} {env:Env} {es:List Expr} {Fs:List EF} (x:SEl κ n sc es Fs):(backTo pos (starEach es env)).any (·.1)=false:=by
 induction x with
 | nil=>rfl
 | cons he _ _ ih=>rw [he];show (false || _)=false;rw [Bool.false_or];exact ih
theorem zok {κ:KK} (W:WF κ) {n:Nat} {sc:Scope} {x:String} {pos:Pos} {v:Value} (hx:x∈zfN) (hb:bootBuiltins (Str.ofString x)=some v) (hk:sc.names.lookup (Str.ofString x)=some .globalImplicit) (hd:(Str.ofString x == ("__debug__":Str))=false)
  {c:Cx} (hc:c.sc=sc) (ok:zbx n c) {σ:Loc} {μ:Mem} {ρ:List (List Addr)} {m:Str→Option Value} {s:Shared} {Q E:Value→Shared→Prop} (S:Stt κ c s σ ρ μ m) (h:Q v s):wpAny (model pg κ.w) c.A (eval (.Name (Str.ofString x) pos) c.env) Q E s:=by
 subst hc
 exact ldB S.fr W.glob (W.free x hx) W.blt ((W.boot x hx).trans hb) h ok.kind hk hd
theorem zy6 {κ:KK} (W:WF κ) {n:Nat} {sc:Scope} {x:String} {pos:Pos} {t:String} (hx:x∈zfN) (hb:bootBuiltins (Str.ofString x)=some (.type t)) (hk:sc.names.lookup (Str.ofString x)=some .globalImplicit) (hd:(Str.ofString x == ("__debug__":Str))=false) :
  SE κ n sc (.Name (Str.ofString x) pos) (zac (.ty t)):=by
 refine ⟨?_⟩
 intro c hc ok σ μ ρ m s Q E S H
 exact zok W hx hb hk hd hc ok S (H s ρ _ S .refl .refl (.d (.ty t)))
theorem ziK {M:Model} {A:Around} {E:Value→Shared→Prop} {s:Shared} {env:Env} {f:Value} (hf:(∃ id,f = .builtin id)∨∃ T,f = .type T) {pos:Pos} {e:Expr} {rest:List Expr} {Q:Value→Shared→Prop}
  (h:wpAny M A (spliced (backTo pos (starEach (e :: rest) env))) (fun vs s₁=>wpAny M A (call f vs) Q E s₁) E s)
  (he:starEach (e :: rest) env=(false,eval e env) :: starEach rest env)
  (hplain:(backTo pos (starEach rest env)).any (·.1)=false) :
  wpAny M A (callWith pos f [] (backTo pos (starEach (e :: rest) env)) []) Q E s:=by
 rcases hf with ⟨id,rfl⟩ | ⟨T,rfl⟩
 ·exact callWith_builtin1 h he hplain
 ·exact PyProof.Rows.callWith_type1 h he hplain
theorem zt0 {κ:KK} (W:WF κ) {n:Nat} {sc:Scope} {x:String} {p pos:Pos} {f:Value} {op:List D→Option D} {e:Expr} {es:List Expr} {Fs:List EF} (ho:zeb κ.w f op) (hf:(∃ id,f = .builtin id)∨∃ T,f = .type T)
  (hx:x∈zfN) (hb:bootBuiltins (Str.ofString x)=some f) (hk:sc.names.lookup (Str.ofString x)=some .globalImplicit) (hd:(Str.ofString x == ("__debug__":Str))=false) (h:SEl κ n sc (e :: es) Fs) :
  SE κ n sc (.Call (.Name (Str.ofString x) p) (e :: es) [] pos) (zaI op Fs):=by
 refine ⟨?_⟩
 intro c hc ok σ μ ρ m s Q E S H
 refine wpAny_Call_ofName (zok W hx hb hk hd hc ok S ?_)
 have hs:∃ he:(∀ rest env,starEach (e :: rest) env=(false,eval e env) :: starEach rest env),∃ F Fs',Fs=F :: Fs'∧SEl κ n sc es Fs':=by
  cases h with | cons a b c=>exact ⟨a,_,_,rfl,c⟩
 obtain ⟨he,F',Fs',rfl,h'⟩:=hs
 refine ziK hf (h.next hc ok S .refl .refl S.nbρ H fun vs μ' s' ρ' vals S' l' g' x_ x_ r x_ H'=>?_) (he _ _) h'.plain
 obtain ⟨ds,z,q1,q2,H''⟩:=zld H'
 exact ho.run ds z q2 _ _ _ _ _ _ (zdQ.of W ok S') (zjn S' r q1) (S'.post l' g' H'')
theorem zfS.one {w:World} {h:Heap} {I:SI} {d:D} {us:List Value} (x:zfS w h I [d] us):∃ v,us=[v]∧Vw w h I d v:=by
 cases x with | cons a b=>cases b;exact ⟨_,rfl,a⟩
theorem zfS.two {w:World} {h:Heap} {I:SI} {d e:D} {us:List Value} (x:zfS w h I [d,e] us):∃ v u,us=[v,u]∧Vw w h I d v∧Vw w h I e u:=by
 cases x with | cons a b=>obtain ⟨u,rfl,c⟩:=b.one;exact ⟨_,u,rfl,a,c⟩
theorem Vw.ty_inv {w:World} {h:Heap} {I:SI} {n:String} {v:Value} (x:Vw w h I (.ty n) v):v = .type n:=x.inv0
noncomputable def zbw (l:List D):Option D:=in1 l fun d=>d.ifS (fun x=>if x.length≤16777216 then some (.int x.length) else none) <| d.ifL (fun x=>if x.length≤16777216 then some (.int x.length) else none) <| d.ifT (fun x=>if x.length≤16777216 then some (.int x.length) else none) none
theorem zvO {w:World}:zeb w (.builtin "len") zbw:=by
 refine ⟨?_⟩
 intro ds z h A s I us Q E hc hv H
 obtain ⟨d,rfl,g⟩:=zgl h
 obtain ⟨v,rfl,a⟩:=hv.one
 rcases D.orS g with ⟨x,rfl,k⟩ | g
 ·obtain ⟨hl,rfl⟩:=zb4 k
  obtain ⟨t,rfl⟩:=a.str_inv
  refine PyProof.Rows.len_str (by rw [zbk];lia) ?_
  rw [zbk];exact H.int
 rcases D.orL g with ⟨x,rfl,k⟩ | g
 ·obtain ⟨hx,rfl⟩:=zb4 k
  obtain ⟨l,vs,n,rfl,hl,hvs⟩:=a.lst_inv hc.here
  have e:=hvs.length
  refine PyProof.Rows.len_list hl.isList (by rw [List.size_toArray,← e];lia) ?_
  rw [List.size_toArray,← e];exact H.int
 ·obtain ⟨x,rfl,k⟩:=D.onT g
  obtain ⟨hx,rfl⟩:=zb4 k
  obtain ⟨l,vs,n,rfl,hl,hvs⟩:=a.tup_inv hc.here
  have e:=hvs.length
  refine PyProof.Rows.len_tuple ⟨_,hl,rfl,n,rfl⟩ (by rw [List.size_toArray,← e];lia) ?_
  rw [List.size_toArray,← e];exact H.int
noncomputable def zc5 (l:List D):Option D:=in1 l fun d=>d.ifI (fun a=>if ze6 a then some (.str (zax a)) else none) none
theorem zvP {w:World}:zeb w (.type "str") zc5:=by
 refine ⟨?_⟩
 intro ds z h A s I us Q E hc hv H
 obtain ⟨d,rfl,g⟩:=zgl h
 obtain ⟨v,rfl,a⟩:=hv.one
 obtain ⟨x,rfl,k⟩:=D.onI g
 obtain ⟨hf,rfl⟩:=zb4 k
 obtain ⟨t,rfl⟩:=a.int_inv
 refine P.str_of_int (zoj hf) ?_
 rw [znc];exact H.str
noncomputable def ziL (l:List D):Option D:=in1 l fun d=>d.ifS (fun x=>if x.length≤640 then (PySem.intText? (Mine.Internal.str x)).map .int else none) none
theorem zvQ {w:World}:zeb w (.type "int") ziL:=by
 refine ⟨?_⟩
 intro ds z h A s I us Q E hc hv H
 obtain ⟨d,rfl,g⟩:=zgl h
 obtain ⟨v,rfl,a⟩:=hv.one
 obtain ⟨x,rfl,k⟩:=D.onS g
 obtain ⟨hf,k⟩:=znZ k
 obtain ⟨n,hn,rfl⟩:=Option.map_eq_some_iff.mp k
 obtain ⟨t,rfl⟩:=a.str_inv
 exact KIN.call_text hn (by rw [zbk];exact hf) H.int
noncomputable def zfT (l:List D):Option D:=in2 l fun a b=>b.ifY (fun n=>a.ifI (fun x_=>if n="int" then some (.bool true) else if n="bool" then some (.bool false) else if n="str" then some (.bool false) else none) <|
 a.ifS (fun x_=>if n="str" then some (.bool true) else none) <| a.ifT (fun x_=>if n="tuple" then some (.bool true) else none) none) none
theorem zvR {w:World}:zeb w (.builtin "isinstance") zfT:=by
 refine ⟨?_⟩
 intro ds z h A s I us Q E hc hv H
 obtain ⟨x,y,rfl,g⟩:=zgm h
 obtain ⟨v,u,rfl,a,b⟩:=hv.two
 obtain ⟨n,rfl,k⟩:=D.onY g
 rw [b.ty_inv]
 rcases D.orI k with ⟨i,rfl,k⟩ | k
 ·obtain ⟨t,rfl⟩:=a.int_inv
  by_cases q:n="int"
  ·cases (if_pos q).symm.trans k;subst q;exact IsiPair.int_int H.bool'
  replace k:=(if_neg q).symm.trans k
  by_cases q:n="bool"
  ·cases (if_pos q).symm.trans k;subst q;exact IsiPair.int_bool H.bool
  ·obtain ⟨q,rfl⟩:=zb4 ((if_neg q).symm.trans k);subst q;exact IsiPair.int_str H.bool
 rcases D.orS k with ⟨i,rfl,k⟩ | k
 ·obtain ⟨t,rfl⟩:=a.str_inv;obtain ⟨q,rfl⟩:=zb4 k;subst q;exact IsiPair.str_str H.bool'
 ·obtain ⟨i,rfl,k⟩:=D.onT k
  obtain ⟨q,rfl⟩:=zb4 k;subst q
  obtain ⟨l,vs,n,rfl,hl,hvs⟩:=a.tup_inv hc.here
  exact call_isinstance (isinstance_true (Tx:="tuple") F.isi_meta_tuple AutoSeq1.sub_tuple_tuple) ⟨⟨_,hl,rfl⟩,H.bool'⟩
section
open PySem.Spec
noncomputable def zlK (l:List Int):List Int:=l.mergeSort fun a b=>decide (a≤b)
noncomputable def zjo (l:List (List Nat)):List (List Nat):=l.mergeSort fun a b=>!decide (b < a)
theorem zsh {l l':List Int} (hp:l'.Perm l) (hs:l'.Pairwise (·≤·)):l' = zlK l:=by
 refine List.Perm.eq_of_pairwise (le:=(·≤·)) (fun a b x_ x_ h1 h2=>Int.le_antisymm h1 h2) hs ?_ (hp.trans (List.mergeSort_perm _ _).symm)
 have:=List.pairwise_mergeSort (le:=fun a b:Int=>decide (a≤b)) (by intro a b c;simp;lia) (by intro a b;simp;lia) l
 exact this.imp (by simp)
theorem zkL {a b c:List Nat} (h1:¬ b < a) (h2:¬ c < b):¬ c < a:=by
 rw [List.not_lt] at *
 exact List.le_trans h1 h2
theorem zsi {l l':List (List Nat)} (hp:l'.Perm l) (hs:l'.Pairwise (fun a b=>¬ b < a)):l' = zjo l:=by
 refine List.Perm.eq_of_pairwise (le:=fun a b=>¬ b < a) (fun a b x_ x_ h1 h2=>List.le_antisymm (List.not_lt.mp h1) (List.not_lt.mp h2)) hs ?_ (hp.trans (List.mergeSort_perm _ _).symm)
 have:=List.pairwise_mergeSort (le:=fun a b:List Nat=>!decide (b < a)) (by
   intro a b c;simp only [Bool.not_eq_true',decide_eq_false_iff_not];exact zkL) (by
   intro a b
   simp only [Bool.or_eq_true,Bool.not_eq_true',decide_eq_false_iff_not]
   by_cases h:b < a
   ·right;intro h';exact List.lt_irrefl _ (List.lt_trans h h')
   ·exact .inl h) l
 exact this.imp (by simp)
theorem zhN:∀ (p:Str) (l:List Str),risingS p l=true→(p :: l).Pairwise (fun a b=>¬ b.cps.toList < a.cps.toList)
 | p,[],_=>by simp
 | p,x :: r,h=>by
  have h':(!ltCps x.cps.toList p.cps.toList && risingS x r)=true:=h
  rw [Bool.and_eq_true,Bool.not_eq_true',ltCps_eq,decide_eq_false_iff_not] at h'
  have ih:=zhN x r h'.2
  refine List.pairwise_cons.mpr ⟨fun y hy=>?_,ih⟩
  rcases List.mem_cons.mp hy with rfl | hy
  ·exact h'.1
  ·exact zkL h'.1 ((List.pairwise_cons.mp ih).1 y hy)
theorem zle:∀ (l:List Str),sortedS l=true→l.Pairwise (fun a b=>¬ b.cps.toList < a.cps.toList)
 | [],_=>.nil
 | x :: r,h=>zhN x r h
theorem zvS {w:World} {I:SI} {vs:List Value} {ns:List Int} (h:IntsAre vs ns):zaC w I (ns.map .int) vs:=by
 induction h with
 | nil=>exact .nil
 | cons n t _ ih=>exact .cons (.int n t) ih
theorem zvT {w:World} {I:SI} {vs:List Value} {ss:List Str} (h:StrsAre vs ss):zaC w I (ss.map fun x=>.str x.cps.toList) vs:=by
 induction h with
 | nil=>exact .nil
 | cons y t _ ih=>
  refine .cons ?_ ih
  have r:=Rd.str (w:=w) (I:=I) y.cps.toList t
  rw [zdx] at r;exact r
theorem znD {w:World} {kws:List (Int×Value)}:∀ {vs:List Value},vs.length=kws.length→(∀ (j:Nat) v,vs[j]? = some v→∃ k x,kws[j]? = some (k,x)∧(intKind pg w).is k v=true)→IntsAre vs (kws.map (·.1)):=by
 induction kws with
 | nil=>intro vs h _;rw [List.length_nil] at h;rw [List.length_eq_zero_iff.mp h];exact .nil
 | cons p kws ih=>
  intro vs h hv
  cases vs with
  | nil=>simp at h
  | cons v vs=>
   obtain ⟨k,x,e1,e2⟩:=hv 0 v rfl
   simp at e1;subst e1
   obtain ⟨t,rfl⟩:=Value.isInt_shape e2
   exact .cons k t (ih (by simpa using h) fun j u hu=>by have:=hv (j+1) u (by simpa using hu);simpa using this)
theorem znE {w:World} {kws:List (Str×Value)}:∀ {vs:List Value},vs.length=kws.length→(∀ (j:Nat) v,vs[j]? = some v→∃ k x,kws[j]? = some (k,x)∧(PySem.strKind pg w).is k v=true)→StrsAre vs (kws.map (·.1)):=by
 induction kws with
 | nil=>intro vs h _;rw [List.length_nil] at h;rw [List.length_eq_zero_iff.mp h];exact .nil
 | cons p kws ih=>
  intro vs h hv
  cases vs with
  | nil=>simp at h
  | cons v vs=>
   obtain ⟨k,x,e1,e2⟩:=hv 0 v rfl
   simp at e1;subst e1
   obtain ⟨t,rfl⟩:=Value.isStrOf_shape e2
   exact .cons k t (ih (by simpa using h) fun j u hu=>by have:=hv (j+1) u (by simpa using hu);simpa using this)
theorem zkM {w:World} {K:Type} [DecidableEq K] {knd:PySem.KeyKind pg w K} {A:Around} {E:Value→Shared→Prop} {s:Shared} {d:Addr} {kws:List (K×Value)} {Q:Value→Shared→Prop} (hz:(d == sysModules)=false) (hh:A.handled=none) (hd:s.heap.DictOf knd d kws) (hn:kws.length≤sizeLine)
  (h:∀ (h':Heap) (tk:Nat) (vs:List Value),(∀ b o,s.heap.get? b=some o→h'.get? b=some o)→vs.length=kws.length→(∀ (j:Nat) v,vs[j]? = some v→∃ k x,kws[j]? = some (k,x)∧knd.is k v=true)→
   wpAny (model pg w) A.in1 (call (.builtin "list.sort") [.ref h'.objs.size]) (fun x_ s'=>Q (.ref h'.objs.size) s') E { s with heap:=h'.push (seqObj "list" vs.toArray 0),toks:=tk }) :
  wpAny (model pg w) A (call (.builtin "sorted") [.ref d]) Q E s:=by
 obtain ⟨ep,hat⟩:=hd.dictAt
 refine Calls.call_function_entry kind_sorted plain_sorted entry_sorted (args_sorted1 _) ?_
 unfold Builtin.«sorted»
 refine wpAny_bind (m:=checkCount "sorted" 1 1 _) (wpAny_pure ?_)
 refine wpAny_bind (kdu_collect (A:=A.in1) (kdl_dict (knd:=knd) (kvs:=kws) (ep:=ep) hz) hh hat hn fun h' tk acc hk hacc=>?_)
 have hl:acc.toList.length=kws.length:=by rw [Array.length_toList];exact hacc.1
 refine wpAny_bind (wpAny_newList ?_ (by rw [hl];exact hn))
 have hg:=h h' tk acc.toList hk hl (fun j v e=>hacc.2 j v (by rw [← Array.getElem?_toList];exact e))
 refine wpAny_bind (wpAny_holding (wpAny_mono hg (fun x_ s' x=>?_) fun x_ x_ e=>e))
 exact wpAny_pure ⟨_,rfl,x⟩
noncomputable def zdf (l:List D):Option D:=in1 l fun d=>d.ifA (fun kvs=>if kvs.length < 64 then some (.lst ((zlK (kvs.map (·.1))).map .int)) else none) <| d.ifB (fun kvs=>if kvs.length < 64 then some (.lst ((zjo (kvs.map (·.1))).map .str)) else none) none
theorem zbC.sorted {w:World} {s:Shared} {I:SI} {z:D} {Q:Value→Shared→Prop} (H:zbC w s I z Q) {h':Heap} {vs:List Value} {out:Array Value} {tk:Nat} (hk:∀ b o,s.heap.get? b=some o→h'.get? b=some o)
  (r:∀ J:SI,∃ ds,z = .lst ds∧zaC w J ds out.toList):Q (.ref h'.objs.size) { s with heap:=sortedHeap (h'.push (seqObj "list" vs.toArray 0)) h'.objs.size vs out,toks:=tk }:=by
 have hsz:∀ {b o},s.heap.get? b=some o→b < h'.objs.size:=fun e=>Heap.lt_size (hk _ _ e)
 have hin:(h'.push (seqObj "list" vs.toArray 0)).get? h'.objs.size=some (seqObj "list" vs.toArray 0):=Heap.get?_push_size _ rfl
 have hold:∀ b o,s.heap.get? b=some o→(h'.push (seqObj "list" vs.toArray 0)).get? b=some o:=fun b o e=>Heap.get?_push_of_some _ (hk b o e)
 have hle:h'.objs.size < (h'.push (seqObj "list" vs.toArray 0)).objs.size:=by rw [size_push'];exact Nat.lt_succ_self _
 generalize h'.push (seqObj "list" vs.toArray 0)=h2 at *
 obtain ⟨e,he⟩:=sortedHeap_at (out:=out) hin
 have hk':∀ b o,s.heap.get? b=some o→(sortedHeap h2 h'.objs.size vs out).get? b=some o:=fun b o eb=>
  (sortedHeap_old (Nat.ne_of_lt (hsz eb)) (Nat.lt_trans (hsz eb) hle)).trans (hold b o eb)
 generalize sortedHeap h2 h'.objs.size vs out=h3 at *
 refine H _ _ ⟨hk',rfl,rfl⟩ fun J x_ hn=>?_
 obtain ⟨ds,rfl,rd⟩:=r J
 refine .lst (hn _ _ ?_ he) ⟨e,by simp [seqObj]⟩ rd
 cases q:s.heap.get? h'.objs.size with
 | none=>rfl
 | some o=>exact absurd (hsz q) (Nat.lt_irrefl _)
theorem zra {w:World}:zeb w (.builtin "sorted") zdf:=by
 refine ⟨?_⟩
 intro ds z h A s I us Q E hc hv H
 obtain ⟨d,rfl,g⟩:=zgl h
 obtain ⟨v,rfl,a⟩:=hv.one
 rcases D.orA g with ⟨kvs,rfl,k⟩ | g
 ·obtain ⟨hl,rfl⟩:=zb4 k
  obtain ⟨d,kws,rfl,hz,hd,hk,_⟩:=a.dcI_inv hc.here
  have e:kws.length < 64:=by have:=congrArg List.length hk;rw [List.length_map,List.length_map] at this;rw [this];exact hl
  refine zkM hz hc.handled hd (by rw [za7];lia) fun h' tk vs hkeep hlen hvs=>?_
  have hi:=znD hlen hvs
  refine wpAny_call_entry slot_list_sort ⟨_,Heap.get?_push_size _ rfl,rfl⟩ entry_list_sort (list_sort_tree (n:=0) (vs:=vs) (Heap.get?_push_size _ rfl) hi (by lia) fun out ns' a1 a2 a3=>⟨_,rfl,?_⟩) (args_list_sort _)
  rw [hk] at a2
  refine H.sorted hkeep fun J=>⟨_,rfl,?_⟩
  rw [← zsh a2 a3];exact zvS a1
 ·obtain ⟨kvs,rfl,k⟩:=D.onB g
  obtain ⟨hl,rfl⟩:=zb4 k
  obtain ⟨d,kws,rfl,hz,hd,hk,_⟩:=a.dcS_inv hc.here
  have e:kws.length < 64:=by have:=congrArg List.length hk;rw [List.length_map,List.length_map] at this;rw [this];exact hl
  refine zkM hz hc.handled hd (by rw [za7];lia) fun h' tk vs hkeep hlen hvs=>?_
  have hS:=znE hlen hvs
  refine wpAny_call_entry slot_list_sort ⟨_,Heap.get?_push_size _ rfl,rfl⟩ entry_list_sort (list_sort_treeK (n:=0) (vs:=vs) strKind_oneLt (Heap.get?_push_size _ rfl) hS.keysOf (fun v₁ v₂ rest e=>keyKind_strs (by rw [← e];exact hS)) (by lia) fun st' hp hs=>⟨_,rfl,?_⟩) (args_list_sort _)
  obtain ⟨ss',h1,h2,h3⟩:=sorted_out_str hS hp hs
  rw [hk] at h2
  refine H.sorted hkeep fun J=>⟨_,rfl,?_⟩
  have e1:ss'.map (fun x=>x.cps.toList)=zjo (kvs.map (·.1)):=by
   refine zsi ?_ ?_
   ·have:=h2.map (fun x=>x.cps.toList)
    rw [List.map_map] at this
    simpa [Function.comp_def,Mine.Internal.str] using this
   ·exact List.pairwise_map.mpr (zle _ h3)
  rw [← e1,List.map_map]
  exact zvT h1
end
structure zfb (T:String) (name:Str) (id:String):Prop where
 pa:PlainAttrs T
 slot:Slot T name id
 ty:typeOf (.builtin id)=pure (.type "method_descriptor")
noncomputable def zt1:D→Option String
 | .str _=>some "str"
 | .lst _=>some "list"
 | .dcI _=>some "dict"
 | .dcS _=>some "dict"
 | _=>none
theorem Vw.typed {w:World} {s:Shared} {I:SI} {x:D} {v:Value} (h:Vw w s.heap I x v) (hI:∀ a o,I a o→s.heap.get? a=some o) {T:String} (ht:zt1 x=some T):s.TypeIs v T∧∀ a,v = .ref a→∃ o,s.heap.get? a=some o∧o.dict=none:=by
 unfold zt1 at ht
 split at ht
 ·cases ht;obtain ⟨t,rfl⟩:=h.str_inv;exact ⟨typeIs_str _ _ _,fun a e=>nomatch e⟩
 ·cases ht;obtain ⟨a,vs,n,rfl,hl,_⟩:=h.lst_inv hI;exact ⟨⟨_,hl,rfl⟩,fun b e=>by cases e;exact ⟨_,hl,rfl⟩⟩
 ·cases ht;obtain ⟨a,kws,rfl,hz,hd,_⟩:=h.dcI_inv hI
  obtain ⟨ep,⟨o,es,ho,hx,_⟩⟩:=hd.dictAt
  exact ⟨⟨_,ho,hx.1⟩,fun b e=>by cases e;exact ⟨_,ho,hx.2.1⟩⟩
 ·cases ht;obtain ⟨a,kws,rfl,hz,hd,_⟩:=h.dcS_inv hI
  obtain ⟨ep,⟨o,es,ho,hx,_⟩⟩:=hd.dictAt
  exact ⟨⟨_,ho,hx.1⟩,fun b e=>by cases e;exact ⟨_,ho,hx.2.1⟩⟩
 ·cases ht
noncomputable def zfU (T:String) (v:V) (μ:Mem):Bool:=match res μ v with
 | some x=>zt1 x == some T
 | none=>false
noncomputable def MEq (o:Expr) (name:Str) (apos:Pos) (es:List Expr) (pos:Pos):Prop:=∀ env,∃ pl:Sem Bool,eval (.Call (.Attribute o name apos) es [] pos) env=(do
   let ov ← eval o env
   standAt apos.atName
   let (f,first) ← holding [ov] (getMethod ov name pl)
   callWith pos f first (backTo pos (starEach es env)) [])
noncomputable def zb9 (T:String) (op:List D→Option D) (F:EF) (Fs:List EF):EF:=fun σ μ=>(F σ μ).bind fun r μ=>
 if zfU T r μ then (zbQ Fs σ μ).bind fun vs μ=>zmB μ (r :: vs) op else .stuck
theorem zvU {κ:KK} (W:WF κ) {n:Nat} {sc:Scope} {o:Expr} {name:Str} {apos pos:Pos} {T:String} {id:String} {op:List D→Option D} {es:List Expr} {F:EF} {Fs:List EF} (M:zfb T name id) (ho:zeb κ.w (.builtin id) op)
  (he:MEq o name apos es pos) (h:SE κ n sc o F) (hs:SEl κ n sc es Fs):SE κ n sc (.Call (.Attribute o name apos) es [] pos) (zb9 T op F Fs):=by
 refine ⟨?_⟩
 intro c hc ok σ μ ρ m s Q E S H
 obtain ⟨pl,hpl⟩:=he c.env
 refine MethodCall_ (he:=hpl) (h.next hc ok S .refl .refl S.nbρ H fun r μ1 s1 ρ1 rv S1 l1 g1 x_ x_ rr H1=>?_)
 split at H1
 rotate_left
 ·exact H1.elim
 rename_i ht
 unfold zfU at ht
 split at ht
 rotate_left
 ·cases ht
 rename_i x hx
 have hty:=(rr.view S1 hx).typed (fun a o h=>h.1) (eq_of_beq ht)
 refine getMethod_builtin hty.1 M.pa M.slot M.ty hty.2 ?_
 cases hs with
 | nil=>
  refine callWith_method0 ?_
  obtain ⟨ds,z,q1,q2,H2⟩:=zld H1
  exact ho.run ds z q2 _ _ _ _ _ _ (zdQ.of W ok S1) (zjn S1 (.cons rr .nil) q1) ((S1.post l1 g1 H2))
 | cons he' h1 h2=>
  refine callWith_method1 ((SEl.cons he' h1 h2).next hc ok S1 l1 g1 S.nbρ H1 fun vs μ2 s2 ρ2 vals S2 l2 g2 i2 p2 rs x_ H2=>?_) (he' _ _) h2.plain
  obtain ⟨ds,z,q1,q2,H3⟩:=zld H2
  exact ho.run ds z q2 _ _ _ _ _ _ (zdQ.of W ok S2) (zjn S2 (.cons (rr.mono i2 p2) rs) q1) (S2.post l2 g2 H3)
noncomputable def zbc (x y:List Nat):List (List Nat):=(Txt.split (Mine.Internal.str x) (Mine.Internal.str y)).map (·.cps.toList)
noncomputable def zaV (x:List Nat) (ys:List (List Nat)):List Nat:=(Txt.join (Mine.Internal.str x) (ys.map Mine.Internal.str)).cps.toList
noncomputable def zrb (x y:List Nat):Bool:=Txt.endswith (Mine.Internal.str x) (Mine.Internal.str y)
theorem zlL {w:World} {I:SI} {ds:List D} {vs:List Value} {ys:List (List Nat)} (r:zaC w I ds vs) (h:zbl ds=some ys):StrsAre vs (ys.map Mine.Internal.str):=
 r.ind (P:=fun ds vs=>∀ ys,zbl ds=some ys→StrsAre vs (ys.map Mine.Internal.str)) (fun x_ h=>by rw [← Option.some.inj h];exact .nil) (fun a x_ ih ys h=>by
  obtain ⟨x,zs,rfl,hz,rfl⟩:=zkI h
  obtain ⟨t,rfl⟩:=a.str_inv
  exact .cons _ t (ih zs hz)) ys h
theorem zbC.toStr {w:World} {s:Shared} {I:SI} {x:Str} {Q:Value→Shared→Prop} {t u:Nat} (h:zbC w s I (.str x.cps.toList) Q):Q (.str x t) { s with toks:=u }:=by
 have:=h.str (t:=t) (u:=u)
 rw [zdx] at this;exact this
noncomputable def zol (l:List D):Option D:=in2 l fun a b=>a.ifS (fun x=>b.ifS (fun y=>some (.bool (zrb x y))) none) none
theorem zt2 {w:World}:zeb w (.builtin "str.endswith") zol:=by
 refine ⟨?_⟩
 intro ds z h A s I us Q E hc hv H
 obtain ⟨x,y,rfl,g⟩:=zgm h
 obtain ⟨v,u,rfl,a,b⟩:=hv.two
 obtain ⟨x,rfl,g1⟩:=D.onS g
 obtain ⟨t,rfl⟩:=a.str_inv
 obtain ⟨y,rfl,k⟩:=D.onS g1
 cases k
 obtain ⟨t',rfl⟩:=b.str_inv
 exact SC.endswith H.bool'
noncomputable def zqv (l:List D):Option D:=in2 l fun a b=>a.ifS (fun x=>b.ifS (fun y=>if y.length≠0∧x.length≤16777210 then some (.lst ((zbc x y).map .str)) else none) none) none
theorem zkN {w:World} {I:SI}:∀ (l:List (Str×Tok)),zaC w I ((l.map (·.1)).map fun x=>.str x.cps.toList) (strValues l)
 | []=>.nil
 | (x,t) :: l=>by
  refine .cons ?_ (zkN l)
  have r:=Rd.str (w:=w) (I:=I) x.cps.toList t
  rw [zdx] at r;exact r
theorem zsj {w:World}:zeb w (.builtin "str.split") zqv:=by
 refine ⟨?_⟩
 intro ds z h A s I us Q E hc hv H
 obtain ⟨x,y,rfl,g⟩:=zgm h
 obtain ⟨v,u,rfl,a,b⟩:=hv.two
 obtain ⟨x,rfl,g1⟩:=D.onS g
 obtain ⟨t,rfl⟩:=a.str_inv
 obtain ⟨y,rfl,k⟩:=D.onS g1
 obtain ⟨hs,rfl⟩:=zb4 k
 obtain ⟨u,rfl⟩:=b.str_inv
 have hy:((Mine.Internal.str y).length == 0)=false:=by rw [zbk];exact beq_false_of_ne hs.1
 have hl:∀ (l:List (Str×Tok)) (tk:Nat),l.map (·.1)=Txt.split (Mine.Internal.str x) (Mine.Internal.str y)→Q (.ref s.heap.objs.size) { s with heap:=s.heap.push { cls:=.type "list",data:=.seq (strValues l).toArray },toks:=tk }:=by
  intro l tk e
  refine H.new (o:={ cls:=.type "list",data:=.seq (strValues l).toArray }) rfl fun J hJ hn=>.lst hn ⟨0,rfl⟩ ?_
  have r:=zkN (w:=w) (I:=J) l
  rw [e] at r
  unfold zbc
  rw [List.map_map];exact r
 have hn:(Builtin.Str.partsBetween (Mine.Internal.str x) (Builtin.Str.occurrences (Mine.Internal.str x) (Mine.Internal.str y) 0 (Mine.Internal.str x).length ((Mine.Internal.str x).length+1)) (Mine.Internal.str y).length).length≤sizeLine:=by
  have e1:=StrLaws.occ_length_le (Mine.Internal.str x) (Mine.Internal.str y) 0 (Mine.Internal.str x).length ((Mine.Internal.str x).length+1)
  rw [length_partsBetween,za7]
  have:=hs.2
  have:=zbk x
  lia
 cases h1:(decide ((Mine.Internal.str x).length < (Mine.Internal.str y).length) || decide (Builtin.Str.strKind (Mine.Internal.str x) < Builtin.Str.strKind (Mine.Internal.str y)))
 ·cases hf:(Builtin.Str.occurrences (Mine.Internal.str x) (Mine.Internal.str y) 0 (Mine.Internal.str x).length ((Mine.Internal.str x).length+1)).isEmpty
  ·refine call_meets F.slot_str_split (typeIs_str _ _ _) F.entry_str_split (F.args_str_split_2 _ _) (meets_str_split_sep _ _ t u h1 hy hf (by rw [zbk,za7];lia) hn) ?_
   show wants Q E _ { s with toks:=_,heap:=s.heap.push { cls:=.type "list",data:=.seq (strsFrom s.toks (Builtin.Str.partsBetween (Mine.Internal.str x) (Builtin.Str.occurrences (Mine.Internal.str x) (Mine.Internal.str y) 0 (Mine.Internal.str x).length ((Mine.Internal.str x).length+1)) (Mine.Internal.str y).length)).toArray } }
   rw [strsFrom_eq]
   exact hl (numbered s.toks _) _ ((numbered_texts _ _).trans ((if_neg (ne_true_of_eq_false h1)).trans (if_neg (ne_true_of_eq_false hf))).symm)
  ·exact call_meets F.slot_str_split (typeIs_str _ _ _) F.entry_str_split (F.args_str_split_2 _ _) (meets_str_split_not_found _ _ t u h1 hy hf)
    (hl [(Mine.Internal.str x,t)] s.toks ((if_neg (ne_true_of_eq_false h1)).trans (if_pos hf)).symm)
 ·exact call_meets F.slot_str_split (typeIs_str _ _ _) F.entry_str_split (F.args_str_split_2 _ _) (meets_str_split_cannot_occur _ _ t u h1)
   (hl [(Mine.Internal.str x,t)] s.toks (if_pos h1).symm)
noncomputable def zc2 (l:List D):Option D:=in2 l fun a b=>a.ifS (fun x=>b.ifL (fun ds=>(zbl ds).bind fun ys=>if (ys.map (·.length)).sum+ys.length * x.length≤16777216 then some (.str (zaV x ys)) else none) none) none
theorem zt3 {w:World}:zeb w (.builtin "str.join") zc2:=by
 refine ⟨?_⟩
 intro ds z h A s I us Q E hc hv H
 obtain ⟨x,y,rfl,g⟩:=zgm h
 obtain ⟨v,u,rfl,a,b⟩:=hv.two
 obtain ⟨x,rfl,g1⟩:=D.onS g
 obtain ⟨t,rfl⟩:=a.str_inv
 obtain ⟨ds,rfl,k⟩:=D.onL g1
 obtain ⟨ys,hy,k⟩:=Option.bind_eq_some_iff.mp k
 obtain ⟨hs,rfl⟩:=zb4 k
 obtain ⟨l,vs,n,rfl,hl,hvs⟩:=b.lst_inv hc.here
 refine PyProof.Rows.join_list hl.isList (ys:=ys.map Mine.Internal.str) (zlL hvs hy) ?_ fun t' k=>H.toStr
 rw [List.map_map,List.length_map,zbk]
 have:((fun x:Str=>x.length)∘Mine.Internal.str)=fun x:List Nat=>x.length:=by funext x;exact zbk x
 rw [this];exact hs
noncomputable def zkd (l:List D):Option D:=in2 l fun a b=>a.ifL (fun ds=>b.ifS (fun x=>(zbl ds).bind fun ys=>if ys.length≤1000∧x∈ys then some (.int (ys.idxOf x:Nat)) else none) none) none
theorem zfV {vs:List Value} {ys:List Str} (h:StrsAre vs ys):∀ {j:Nat} (hj:j < vs.length),∃ hy:j < ys.length,∃ t,vs[j] = .str ys[j] t:=by
 induction h with
 | nil=>intro j hj;simp at hj
 | cons y t _ ih=>
  intro j hj
  cases j with
  | zero=>exact ⟨by simp,t,rfl⟩
  | succ j=>obtain ⟨a,b,c⟩:=ih (j:=j) (by simpa using hj);exact ⟨by simpa using a,b,by simpa using c⟩
theorem zvV {w:World}:zeb w (.builtin "list.index") zkd:=by
 refine ⟨?_⟩
 intro ds z h A s I us Q E hc hv H
 obtain ⟨x,y,rfl,g⟩:=zgm h
 obtain ⟨v,u,rfl,a,b⟩:=hv.two
 obtain ⟨ds,rfl,g1⟩:=D.onL g
 obtain ⟨x,rfl,k⟩:=D.onS g1
 obtain ⟨ys,hy,k⟩:=Option.bind_eq_some_iff.mp k
 obtain ⟨hs,rfl⟩:=zb4 k
 obtain ⟨l,vs,n,rfl,hl,hvs⟩:=a.lst_inv hc.here
 obtain ⟨t,rfl⟩:=b.str_inv
 have hS:=zlL hvs hy
 have hlen:vs.length=ys.length:=by have:=hS.length;simpa using this
 have hj:ys.idxOf x < ys.length:=List.idxOf_lt_length_of_mem hs.2
 refine call_meets F.slot_list_index ⟨_,hl,rfl⟩ F.entry_list_index (F.args_list_index_2 _ _)
  (MeetsSeq.list_index l vs.toArray n (.str (Mine.Internal.str x) t) (fun v=>match v with | .str y _=>y.cps.toList == x | _=>false) (fun y hm=>?_) (ys.idxOf x) (by simpa [hlen] using hj) (by lia) ?_ fun m hm hlt=>?_) ⟨hl,H.int⟩
 ·obtain ⟨i,hi,rfl⟩:=List.getElem_of_mem (List.mem_toArray.mp hm)
  obtain ⟨h1,t',h2⟩:=zfV hS hi
  rw [h2]
  have:=SeqRoads2.EqGives.str ((ys.map Mine.Internal.str)[i]) (Mine.Internal.str x) t' t
  simpa [Mine.Internal.str] using this
 ·obtain ⟨h1,t',h2⟩:=zfV hS (j:=ys.idxOf x) (by lia)
  simp only [List.getElem_toArray,h2]
  simp [Mine.Internal.str]
 ·obtain ⟨h1,t',h2⟩:=zfV hS (j:=m) (by simpa using hm)
  simp only [List.getElem_toArray,h2]
  have:=List.not_of_lt_findIdx (p:=(· == x)) (xs:=ys) (i:=m) (by simpa [List.idxOf] using hlt)
  simpa [Mine.Internal.str] using this
noncomputable def in3 {α:Type} (l:List D) (f:D→D→D→Option α):Option α:=match l with
 | []=>none
 | a :: l=>in2 l (f a)
theorem zt4 {α:Type} {l:List D} {f:D→D→D→Option α} {z:α} (h:in3 l f=some z):∃ a b c,l=[a,b,c]∧f a b c=some z:=match l,h with
 | a :: _,h=>let ⟨b,c,e,h⟩:=zgm h;⟨a,b,c,congrArg _ e,h⟩
noncomputable def zn0 (l:List D):Option D:=in3 l fun a b c=>a.ifB (fun kvs=>b.ifS (fun x=>c.ifI (fun d=>some ((zeW kvs x).getD (.int d))) none) none) none
theorem zrc:∀ {kvs:List (List Nat×D)} {kws:List (Str×Value)} {x:List Nat},kws.map (·.1)=kvs.map (fun p=>Mine.Internal.str p.1)→zeW kvs x=none→valueAt kws (Mine.Internal.str x)=none:=by
 intro kvs
 induction kvs with
 | nil=>intro kws x h _;rw [List.map_nil,List.map_eq_nil_iff] at h;subst h;rfl
 | cons p kvs ih=>
  intro kws x h e
  cases kws with
  | nil=>simp at h
  | cons q kws=>
   obtain ⟨k,d⟩:=p
   obtain ⟨k',v⟩:=q
   simp only [List.map_cons,List.cons.injEq] at h
   obtain ⟨rfl,h⟩:=h
   unfold zeW at e
   unfold valueAt
   rw [List.find?_cons] at e ⊢
   by_cases q:k=x
   ·subst q;simp at e
   ·have q':Mine.Internal.str k≠Mine.Internal.str x:=fun h=>q (by have:=congrArg (fun z:Str=>z.cps.toList) h;simpa [Mine.Internal.str] using this)
    simp only [q,q',decide_false] at e ⊢
    exact ih h e
theorem zfS.three {w:World} {h:Heap} {I:SI} {d e f:D} {us:List Value} (x:zfS w h I [d,e,f] us):∃ v u t,us=[v,u,t]∧Vw w h I d v∧Vw w h I e u∧Vw w h I f t:=by
 cases x with | cons a b=>obtain ⟨u,t,rfl,c,d⟩:=b.two;exact ⟨_,u,t,rfl,a,c,d⟩
theorem zvW {w:World}:zeb w (.builtin "dict.get") zn0:=by
 refine ⟨?_⟩
 intro ds z h A s I us Q E hc hv H
 obtain ⟨x,y,z,rfl,g⟩:=zt4 h
 obtain ⟨v,u,t,rfl,a,b,c⟩:=hv.three
 obtain ⟨kvs,rfl,g0⟩:=D.onB g
 obtain ⟨x,rfl,g1⟩:=D.onS g0
 obtain ⟨d,rfl,k⟩:=D.onI g1
 cases k
 obtain ⟨l,kws,rfl,hz,hd,hk,hvs⟩:=a.dcS_inv hc.here
 obtain ⟨tk,rfl⟩:=b.str_inv
 refine call_meetsIn F.slot_dict_get (zcJ hd).typeIs F.entry_dict_get (F.args_dict_get_3 _ _ _) (meets_dict_get_default (PySem.strKind pg w) l (strKind_is pg w _ tk) hz t) ⟨_,zcJ hd,?_⟩
 cases q:zeW kvs x with
 | some y=>
  obtain ⟨v,hv,r⟩:=zjl hk hvs q
  rw [hv]
  rw [q] at H
  exact H _ _ .tok fun J hJ x_=>r.mono hJ
 | none=>
  rw [zrc hk q]
  rw [q] at H
  obtain ⟨t',rfl⟩:=c.int_inv
  exact H _ _ .tok fun J hJ x_=>.int d t'
noncomputable def zom (l:List D):Option D:=in1 l fun d=>d.ifT (fun ds=>if ds.length≤1000 then some (.lst ds) else none) none
theorem zrd {w:World}:zeb w (.type "list") zom:=by
 refine ⟨?_⟩
 intro ds z h A s I us Q E hc hv H
 obtain ⟨d,rfl,g⟩:=zgl h
 obtain ⟨v,rfl,a⟩:=hv.one
 obtain ⟨ds,rfl,k⟩:=D.onT g
 obtain ⟨hz,rfl⟩:=zb4 k
 obtain ⟨l,vs,n,rfl,hl,hvs⟩:=a.tup_inv hc.here
 have e:=hvs.length
 refine call_list_seq l (.inr rfl) hl rfl rfl (fun h' c' hk hn=>?_) (by rw [za7];simp;lia)
 refine H _ _ ⟨hk,rfl,rfl⟩ fun J hJ hnew=>?_
 exact .lst (hnew _ _ (zbu (Nat.le_refl _)) hn) ⟨c',rfl⟩ (hvs.mono hJ)
theorem zon {ρ:List (List Addr)} (h:ρ.flatten.Nodup):∀ {j k:Nat} {l l':List Addr} {a:Addr},ρ[j]? = some l→ρ[k]? = some l'→a∈l→a∈l'→j=k:=by
 induction ρ with
 | nil=>intro j k l l' a h1;simp at h1
 | cons x ρ ih=>
  rw [List.flatten_cons,List.nodup_append] at h
  intro j k l l' a h1 h2 ha hb
  cases j with
  | zero=>
   cases k with
   | zero=>rfl
   | succ k=>
    simp at h1 h2;subst h1
    exact absurd rfl (h.2.2 a ha a (List.mem_flatten.mpr ⟨l',List.mem_of_getElem? h2,hb⟩))
  | succ j=>
   cases k with
   | zero=>
    simp at h1 h2;subst h2
    exact absurd rfl (h.2.2 a hb a (List.mem_flatten.mpr ⟨l,List.mem_of_getElem? h1,ha⟩))
   | succ k=>
    simp at h1 h2
    rw [ih h.2.1 h1 h2 ha hb]
theorem zew {ρ:List (List Addr)} {k:Nat} {l':List Addr} {a:Addr} (h:a∈(ρ.set k l').flatten):a∈l'∨∃ j l,j≠k∧ρ[j]? = some l∧a∈l:=by
 obtain ⟨l,hl,ha⟩:=List.mem_flatten.mp h
 obtain ⟨j,hj⟩:=List.getElem?_of_mem hl
 rw [List.getElem?_set] at hj
 split at hj
 ·split at hj
  ·cases hj;exact .inl ha
  ·cases hj
 ·exact .inr ⟨j,l,fun e=>(by rename_i q;exact q e.symm),hj,ha⟩
theorem zkE {k:Nat} {l':List Addr}:∀ {ρ:List (List Addr)} {l:List Addr},ρ.flatten.Nodup→ρ[k]? = some l→l'.Nodup→(∀ a∈l',a∈l∨a∉ρ.flatten)→(ρ.set k l').flatten.Nodup:=by
 induction k with
 | zero=>
  intro ρ l h hk hn hl
  cases ρ with
  | nil=>simp at hk
  | cons x ρ=>
   simp at hk;subst hk
   rw [List.set_cons_zero,List.flatten_cons,List.nodup_append]
   rw [List.flatten_cons,List.nodup_append] at h
   refine ⟨hn,h.2.1,fun a ha b hb e=>?_⟩
   subst e
   rcases hl a ha with q | q
   ·exact h.2.2 a q a hb rfl
   ·exact q (by rw [List.flatten_cons];exact List.mem_append_right _ hb)
 | succ k ih=>
  intro ρ l h hk hn hl
  cases ρ with
  | nil=>simp at hk
  | cons x ρ=>
   rw [List.getElem?_cons_succ] at hk
   rw [List.set_cons_succ,List.flatten_cons,List.nodup_append]
   rw [List.flatten_cons,List.nodup_append] at h
   refine ⟨h.1,ih h.2.1 hk hn (fun a ha=>(hl a ha).imp id fun q r=>q (by rw [List.flatten_cons];exact List.mem_append_right _ r)),fun a ha b hb e=>?_⟩
   subst e
   rcases zew hb with q | ⟨j,y,_,hj,hy⟩
   ·rcases hl a q with r | r
    ·exact h.2.2 a ha a (List.mem_flatten.mpr ⟨l,List.mem_of_getElem? hk,r⟩) rfl
    ·exact r (by rw [List.flatten_cons];exact List.mem_append_left _ ha)
   ·exact h.2.2 a ha a (List.mem_flatten.mpr ⟨y,List.mem_of_getElem? hj,hy⟩) rfl
set_option tactic.hygienic true in
theorem Stt.put {κ:KK} {c:Cx} {s s':Shared} {σ:Loc} {ρ:List (List Addr)} {μ:Mem} {m:Str→Option Value} (S:Stt κ c s σ ρ μ m) {k:Nat} {l l':List Addr} {o:MO} (hk:ρ[k]? = some l)
  (hx:∀ b ob,b∉l→s.heap.get? b=some ob→s'.heap.get? b=some ob) (hn:l'.Nodup) (hl:∀ a∈l',a∈l∨s.heap.get? a=none) (hd:∀ a r,l=a :: r→∃ r',l' = a :: r') (ht:∀ a∈l,∃ ob,s'.heap.get? a=some ob)
  (M:zcV κ s'.heap (Im s.heap ρ c.fr) o l') (hg:s'.gens=s.gens) (ho:s'.os=s.os):Stt κ c s' σ (ρ.set k l') (μ.set k o) m∧zaG c ρ s s':=by
 have hkl:k < ρ.length:=(List.getElem?_eq_some_iff.mp hk).1
 have hI:=S.inv
 have hnd:=hI.nodup
 rw [List.nodup_append] at hnd
 have hmem:∀ a∈l,a∈ρ.flatten:=fun a ha=>List.mem_flatten.mpr ⟨l,List.mem_of_getElem? hk,ha⟩
 have hL:zaG c ρ s s':=by
  refine ⟨fun a ob h=>?_,fun a ob h=>hx a ob (fun q=>h.2.1 (hmem a q)) h.1⟩
  by_cases q:a∈l
  ·exact ht a q
  ·exact ⟨ob,hx a ob q h⟩
 have hIm:∀ a ob,Im s.heap ρ c.fr a ob→Im s'.heap (ρ.set k l') c.fr a ob:=by
  rintro a ob ⟨p,q,r⟩
  refine ⟨hx a ob (fun z=>q (hmem a z)) p,fun z=>?_,r⟩
  rcases zew z with z | ⟨j,y,_,hj,hy⟩
  ·rcases hl a z with z | z
   ·exact q (hmem a z)
   ·rw [z] at p;cases p
  ·exact q (List.mem_flatten.mpr ⟨y,List.mem_of_getElem? hj,hy⟩)
 have hfr:∀ f∈c.fs m,f.L∉l:=fun f hf q=>hnd.2.2 f.L (hmem _ q) f.L (List.mem_map_of_mem hf) rfl
 refine ⟨⟨⟨fun b ob e=>hx b ob (fun q=>(hI.baseNot e).1 (hmem b q)) (hI.keep b ob e),fun f hf=>(hI.ns f hf).keep fun ob=>hx _ ob (hfr f hf),?_,?_,hI.newF,by simp [hI.len],?_⟩,?_,by have:=S.nb;simpa using this,hg.trans S.gens,ho.trans S.os⟩,hL⟩
 ·rw [List.nodup_append]
  refine ⟨zkE hnd.1 hk hn fun a ha=>(hl a ha).imp id fun q r=>?_,hnd.2.1,fun a ha b hb e=>?_⟩
  ·obtain ⟨ob,z⟩:=hI.has a (List.mem_append_left _ r);rw [q] at z;cases z
  ·subst e
   rcases zew ha with z | ⟨j,y,_,hj,hy⟩
   ·rcases hl a z with z | z
    ·exact hnd.2.2 a (hmem a z) a hb rfl
    ·obtain ⟨ob,z'⟩:=hI.has a (List.mem_append_right _ hb);rw [z] at z';cases z'
   ·exact hnd.2.2 a (List.mem_flatten.mpr ⟨y,List.mem_of_getElem? hj,hy⟩) a hb rfl
 ·intro a ha
  rcases zew ha with z | ⟨j,y,_,hj,hy⟩
  ·rcases hl a z with z | z
   ·exact hI.new a (hmem a z)
   ·cases q:κ.B.get? a with
    | none=>rfl
    | some o'=>rw [hI.keep a o' q] at z;cases z
  ·exact hI.new a (List.mem_flatten.mpr ⟨y,List.mem_of_getElem? hj,hy⟩)
 ·intro j ob hj
  rw [List.getElem?_set] at hj
  split at hj
  ·rename_i e
   subst e
   split at hj
   ·cases hj
    exact ⟨l',by rw [List.getElem?_set_self hkl],M.keep (fun x_ x_ x_ e=>e) hIm⟩
   ·cases hj
  ·rename_i e
   obtain ⟨y,hy,My⟩:=hI.objs j ob hj
   refine ⟨y,by rw [List.getElem?_set_ne e];exact hy,My.keep (fun a ha ob' e'=>hx a ob' (fun q=>?_) e') hIm⟩
   exact e (zon hnd.1 hk hy q ha)
 ·intro i v hv
  obtain ⟨x,kd,val,h1,h2,h3⟩:=S.loc i v hv
  refine ⟨x,kd,val,h1,h2,?_⟩
  cases h3 with
  | d r=>exact .d (r.mono hIm)
  | ref e=>
   rename_i j a r
   by_cases q:k=j
   ·subst q
    rw [hk] at e;cases e
    obtain ⟨r',rfl⟩:=hd a r rfl
    exact .ref (l:=r') (by rw [List.getElem?_set_self hkl])
   ·exact .ref (l:=r) (by rw [List.getElem?_set_ne q];exact e)
theorem zt5 {α:Type} {l:List α} {k:Nat} {x:α} (h:l[k]? = some x):l.set k x=l:=by
 apply List.ext_getElem?
 intro j
 rw [List.getElem?_set]
 split
 ·rename_i e;subst e
  obtain ⟨q,e⟩:=List.getElem?_eq_some_iff.mp h
  rw [if_pos q,h]
 ·rfl
theorem Stt.put1 {κ:KK} {c:Cx} {s s':Shared} {σ:Loc} {ρ:List (List Addr)} {μ:Mem} {m:Str→Option Value} (S:Stt κ c s σ ρ μ m) {k:Nat} {l:List Addr} {o:MO} (hk:ρ[k]? = some l)
  (hx:∀ b ob,b∉l→s.heap.get? b=some ob→s'.heap.get? b=some ob) (M:zcV κ s'.heap (Im s.heap ρ c.fr) o l) (hg:s'.gens=s.gens:=by rfl) (ho:s'.os=s.os:=by rfl):Stt κ c s' σ ρ (μ.set k o) m∧zaG c ρ s s':=by
 have hn:l.Nodup:=by
  have:=S.inv.nodup
  rw [List.nodup_append] at this
  exact List.Sublist.nodup (List.sublist_flatten_of_mem (List.mem_of_getElem? hk)) this.1
 have:=S.put (l':=l) hk hx hn (fun a ha=>.inl ha) (fun a r e=>⟨r,e⟩) M.has M hg ho
 rw [zt5 hk] at this
 exact this
noncomputable def zsk (r:V) (μ:Mem) (v:V):RE:=r.gR.elim .stuck fun k=>v.gD.elim .stuck fun x=>(atL μ k).elim .stuck fun ds=>if ds.length≤10000000 then .ok (.d .none) (μ.set k (.list (ds ++ [x]))) else .stuck
noncomputable def zbH (F G:EF):EF:=fun σ μ=>(F σ μ).bind fun r μ=>if zfU "list" r μ then (G σ μ).bind fun v μ=>zsk r μ v else .stuck
set_option tactic.hygienic true in
theorem zmC {κ:KK} {c:Cx} {s:Shared} {σ:Loc} {ρ:List (List Addr)} {μ:Mem} {m:Str→Option Value} (S:Stt κ c s σ ρ μ m) {v:V} {val:Value} (r:RV κ.w (Im s.heap ρ c.fr) ρ v val) {T:String} (h:zfU T v μ=true) :
  s.TypeIs val T∧∀ a,val = .ref a→∃ o,s.heap.get? a=some o∧o.dict=none:=by
 unfold zfU at h
 split at h
 rotate_left
 ·cases h
 rename_i x hx
 exact (r.view S hx).typed (fun a o h=>h.1) (eq_of_beq h)
theorem zke {κ:KK} {c:Cx} {s:Shared} {σ:Loc} {ρ:List (List Addr)} {μ:Mem} {m:Str→Option Value} (S:Stt κ c s σ ρ μ m) {k:Nat} {val:Value} (r:RV κ.w (Im s.heap ρ c.fr) ρ (.ref k) val) {ds:List D} (h:μ[k]? = some (.list ds)) :
  ∃ a vs n,val = .ref a∧ρ[k]? = some [a]∧IsL s.heap a vs.toArray n∧zaC κ.w (Im s.heap ρ c.fr) ds vs:=by
 obtain ⟨a,l',rfl,e⟩:=r.inv
 obtain ⟨l,hl,M⟩:=S.inv.objs _ _ h
 obtain ⟨a',o,vs,rfl,g,⟨n,rfl⟩,c⟩:=M.inv
 cases e.symm.trans hl
 exact ⟨a,vs,n,rfl,e,g,c⟩
theorem ziM {κ:KK} {c:Cx} {s:Shared} {σ:Loc} {ρ:List (List Addr)} {μ:Mem} {m:Str→Option Value} (S:Stt κ c s σ ρ μ m) {k:Nat} {a:Addr} {vs:Array Value} {n:Nat} (hk:ρ[k]? = some [a]) (hl:IsL s.heap a vs n)
  {f:Array Value→Array Value} {ds':List D} (r:zaC κ.w (Im s.heap ρ c.fr) ds' (f vs).toList) {u:Nat} :
  Stt κ c { s with heap:=s.heap.update a (Obj.mapSeq f),toks:=u } σ ρ (μ.set k (.list ds')) m∧zaG c ρ s { s with heap:=s.heap.update a (Obj.mapSeq f),toks:=u }:=by
 refine S.put1 (s':={ s with heap:=s.heap.update a (Obj.mapSeq f),toks:=u }) hk (fun b ob hb e=>?_) ?_
 ·exact (Heap.get?_update_other _ _ (fun q=>hb (by simp [q]))).trans e
 ·obtain ⟨e1,h1⟩:∃ e1,(s.heap.update a (Obj.mapSeq f)).get? a=some (seqObj "list" (f vs) e1):=⟨_,get?_update_seq hl f⟩
  exact .list (vs:=(f vs).toList) h1 ⟨e1,by simp [seqObj]⟩ r
theorem zh4:zfb "list" (Str.ofString "append") "list.append":=⟨PySem.F.plainAttrs_list,PySem.F.slot_list_append,PySem.F.type_list_append⟩
theorem zlf:zfb "list" (Str.ofString "pop") "list.pop":=⟨PySem.F.plainAttrs_list,PySem.F.slot_list_pop,PySem.F.type_list_pop⟩
theorem zhq:zfb "list" (Str.ofString "reverse") "list.reverse":=⟨PySem.F.plainAttrs_list,PySem.F.slot_list_reverse,PySem.F.type_list_reverse⟩
theorem zre:zfb "list" (Str.ofString "index") "list.index":=⟨PySem.F.plainAttrs_list,PySem.F.slot_list_index,PySem.F.type_list_index⟩
theorem zsl:zfb "str" (Str.ofString "endswith") "str.endswith":=⟨PySem.F.plainAttrs_str,PySem.F.slot_str_endswith,PySem.F.type_str_endswith⟩
theorem zrf:zfb "str" (Str.ofString "split") "str.split":=⟨PySem.F.plainAttrs_str,PySem.F.slot_str_split,PySem.F.type_str_split⟩
theorem zsm:zfb "str" (Str.ofString "join") "str.join":=⟨PySem.F.plainAttrs_str,PySem.F.slot_str_join,PySem.F.type_str_join⟩
theorem zt6:zfb "dict" (Str.ofString "get") "dict.get":=⟨PySem.F.plainAttrs_dict,PySem.F.slot_dict_get,PySem.F.type_dict_get⟩
theorem zvX {κ:KK} (W:WF κ) {n:Nat} {sc:Scope} {o e:Expr} {apos pos:Pos} {F G:EF} (he:MEq o (Str.ofString "append") apos [e] pos) (hs:∀ rest env,starEach (e :: rest) env=(false,eval e env) :: starEach rest env) (h1:SE κ n sc o F) (h2:SE κ n sc e G) :
  SE κ n sc (.Call (.Attribute o (Str.ofString "append") apos) [e] [] pos) (zbH F G):=by
 refine ⟨?_⟩
 intro c hc ok σ μ ρ m s Q E S H
 obtain ⟨pl,hpl⟩:=he c.env
 refine MethodCall_ (he:=hpl) (h1.next hc ok S .refl .refl S.nbρ H fun r μ1 s1 ρ1 rv S1 l1 g1 x_ x_ rr H1=>?_)
 obtain ⟨ht,H1⟩:=zgk H1
 have hty:=zmC S1 rr ht
 refine getMethod_builtin hty.1 zh4.pa zh4.slot zh4.ty hty.2 ?_
 refine callWith_method1 ?_ (hs [] c.env) rfl
 refine wpAny_items_cons (h2.next hc ok S1 l1 g1 S.nbρ H1 fun v μ2 s2 ρ2 val S2 l2 g2 i2 k2 r2 H2=>wpAny_items_nil ?_) (hs [] c.env)
 obtain ⟨k,e1,K1⟩:=zbr (o:=r.gR) H2
 obtain ⟨x,e2,K2⟩:=zbr K1
 obtain ⟨ds,hm,K3⟩:=zbr K2
 replace hm:=znV hm
 obtain ⟨hlen,K4⟩:=zgk K3
 cases V.gR_s e1
 cases V.gD_s e2
 obtain ⟨a,vs,n',rfl,hk,hl,hvs⟩:=zke S2 (rr.mono i2 k2) hm
 have hL:=hvs.length
 refine call_meets PySem.F.slot_list_append ⟨_,hl,rfl⟩ PySem.F.entry_list_append (PySem.F.args_list_append_2 _ _) (list_append a vs.toArray n' val (by rw [za7];simp;lia)) ⟨hl,?_⟩
 obtain ⟨S3,l3⟩:=ziM S2 hk hl (f:=fun xs=>xs.push val) (ds':=ds ++ [x]) (u:=s2.toks) (by
  simp only [Array.toList_push]
  exact hvs.append (.cons r2.d_inv .nil))
 exact K4 _ _ _ S3 (l2.trans g2 l3) g2 (.d .none)
noncomputable def zxA (r:V) (μ:Mem):RE:=r.gR.elim .stuck fun k=>(atL μ k).elim .stuck fun ds=>ds.getLast?.elim .stuck fun x=>if ds.length≤10000000 then .ok (.d x) (μ.set k (.list ds.dropLast)) else .stuck
noncomputable def zoo (F:EF):EF:=fun σ μ=>(F σ μ).bind fun r μ=>if zfU "list" r μ then zxA r μ else .stuck
theorem zaC.dropLast {w:World} {I:SI} {ds:List D} {vs:List Value} (r:zaC w I ds vs):zaC w I ds.dropLast vs.dropLast:=by
 rw [List.dropLast_eq_take,List.dropLast_eq_take,← r.length];exact r.take _
theorem zaC.reverse {w:World} {I:SI} {ds:List D} {vs:List Value} (r:zaC w I ds vs):zaC w I ds.reverse vs.reverse:=
 r.ind (P:=fun ds vs=>zaC w I ds.reverse vs.reverse) .nil fun a x_ c=>by rw [List.reverse_cons,List.reverse_cons];exact c.append (.cons a .nil)
theorem zxB {κ:KK} (W:WF κ) {n:Nat} {sc:Scope} {o:Expr} {apos pos:Pos} {F:EF} (he:MEq o (Str.ofString "pop") apos [] pos) (h1:SE κ n sc o F) :
  SE κ n sc (.Call (.Attribute o (Str.ofString "pop") apos) [] [] pos) (zoo F):=by
 refine ⟨?_⟩
 intro c hc ok σ μ ρ m s Q E S H
 obtain ⟨pl,hpl⟩:=he c.env
 refine MethodCall_ (he:=hpl) (h1.next hc ok S .refl .refl S.nbρ H fun r μ1 s1 ρ1 rv S1 l1 g1 x_ x_ rr H1=>?_)
 obtain ⟨ht,H1⟩:=zgk H1
 have hty:=zmC S1 rr ht
 refine getMethod_builtin hty.1 zlf.pa zlf.slot zlf.ty hty.2 ?_
 refine callWith_method0 ?_
 obtain ⟨k,e1,K1⟩:=zbr (o:=r.gR) H1
 obtain ⟨ds,hm,K2⟩:=zbr K1
 replace hm:=znV hm
 obtain ⟨x,hx,K3⟩:=zbr K2
 obtain ⟨hlen,K4⟩:=zgk K3
 cases V.gR_s e1
 obtain ⟨a,vs,n',rfl,hk,hl,hvs⟩:=zke S1 rr hm
 have hL:=hvs.length
 rw [List.getLast?_eq_getElem?] at hx
 obtain ⟨y,hy,ry⟩:=hvs.get hx
 refine call_meets PySem.F.slot_list_pop ⟨_,hl,rfl⟩ PySem.F.entry_list_pop (PySem.F.args_list_pop_1 _) (MeetsSeq.list_pop_last a vs.toArray n' y (by simpa [hL] using hy) (by rw [za7];simp;lia)) ⟨hl,?_⟩
 have hz:vs≠[]:=fun e=>by subst e;simp at hy
 obtain ⟨S3,l3⟩:=ziM S1 hk hl (f:=fun xs=>xs.eraseIdxIfInBounds (vs.toArray.size - 1)) (ds':=ds.dropLast) (u:=s1.toks) (by
  have hlt:vs.length - 1 < vs.length:=by have:=List.length_pos_iff.mpr hz;lia
  have:(vs.toArray.eraseIdxIfInBounds (vs.toArray.size - 1)).toList=vs.dropLast:=by
   rw [Array.toList_eraseIdxIfInBounds]
   simp [List.eraseIdx_length_sub_one]
  rw [this]
  exact hvs.dropLast)
 exact K4 _ _ _ S3 (l1.trans g1 l3) g1 (.d (ry.mono fun a o h=>l3.2 a o h |> fun q=>⟨q,h.2⟩))
noncomputable def zy7 (r:V) (μ:Mem):RE:=r.gR.elim .stuck fun k=>(atL μ k).elim .stuck fun ds=>if ds.length≤10000000 then .ok (.d .none) (μ.set k (.list ds.reverse)) else .stuck
noncomputable def zop (F:EF):EF:=fun σ μ=>(F σ μ).bind fun r μ=>if zfU "list" r μ then zy7 r μ else .stuck
theorem zxC {κ:KK} (W:WF κ) {n:Nat} {sc:Scope} {o:Expr} {apos pos:Pos} {F:EF} (he:MEq o (Str.ofString "reverse") apos [] pos) (h1:SE κ n sc o F) :
  SE κ n sc (.Call (.Attribute o (Str.ofString "reverse") apos) [] [] pos) (zop F):=by
 refine ⟨?_⟩
 intro c hc ok σ μ ρ m s Q E S H
 obtain ⟨pl,hpl⟩:=he c.env
 refine MethodCall_ (he:=hpl) (h1.next hc ok S .refl .refl S.nbρ H fun r μ1 s1 ρ1 rv S1 l1 g1 x_ x_ rr H1=>?_)
 obtain ⟨ht,H1⟩:=zgk H1
 have hty:=zmC S1 rr ht
 refine getMethod_builtin hty.1 zhq.pa zhq.slot zhq.ty hty.2 ?_
 refine callWith_method0 ?_
 obtain ⟨k,e1,K1⟩:=zbr (o:=r.gR) H1
 obtain ⟨ds,hm,K2⟩:=zbr K1
 replace hm:=znV hm
 obtain ⟨hlen,K3⟩:=zgk K2
 cases V.gR_s e1
 obtain ⟨a,vs,n',rfl,hk,hl,hvs⟩:=zke S1 rr hm
 have hL:=hvs.length
 refine call_meets PySem.F.slot_list_reverse ⟨_,hl,rfl⟩ PySem.F.entry_list_reverse (PySem.F.args_list_reverse_1 _) (AutoSeq1.list_reverse_list_0 a vs.toArray n' (by rw [za7];simp;lia)) ⟨hl,?_⟩
 obtain ⟨S3,l3⟩:=ziM S1 hk hl (f:=fun xs=>xs.reverse) (ds':=ds.reverse) (u:=s1.toks) (by
  simp only [Array.toList_reverse]
  exact hvs.reverse)
 exact K3 _ _ _ S3 (l1.trans g1 l3) g1 (.d .none)
inductive Fw where
 | next (σ:Loc)
 | ret (v:V)
noncomputable abbrev CF:=Loc→Mem→RX Fw
noncomputable abbrev zes (κ:KK) (c:Cx) (s:Shared) (ρ:List (List Addr)) (Q:Flow→Shared→Prop):Fw→Mem→Prop:=fun f μ'=>match f with
 | .next σ'=>∀ s' ρ' m',Stt κ c s' σ' ρ' μ' m'→zaG c ρ s s'→zbj s ρ ρ'→Q .next s'
 | .ret v=>∀ s' ρ' m' val,Stt κ c s' [] ρ' μ' m'→zaG c ρ s s'→zbj s ρ ρ'→RV κ.w (Im s'.heap ρ' c.fr) ρ' v val→Q (.ret val) s'
structure CS (κ:KK) (n:Nat) (sc:Scope) (st:Stmt) (G:CF):Prop where
 run:∀ c,c.sc=sc→zbx n c→∀ σ μ ρ m s Q E,Stt κ c s σ ρ μ m→za6 κ c s ρ E (G σ μ) (zes κ c s ρ Q)→wpAny (model pg κ.w) c.A (exec st c.env) Q E s
structure CE (κ:KK) (n:Nat) (sc:Scope) (sts:List Stmt) (G:CF):Prop where
 run:∀ c,c.sc=sc→zbx n c→∀ σ μ ρ m s Q E,Stt κ c s σ ρ μ m→za6 κ c s ρ E (G σ μ) (zes κ c s ρ Q)→wpAny (model pg κ.w) c.A (execs sts c.env) Q E s
noncomputable def zaz:CF:=fun σ μ=>.ok (.next σ) μ
noncomputable def zaj (G H:CF):CF:=fun σ μ=>(G σ μ).bind fun f μ'=>match f with
 | .next σ'=>H σ' μ'
 | .ret v=>.ok (.ret v) μ'
theorem Stt.blind {κ:KK} {c:Cx} {s:Shared} {σ:Loc} {ρ:List (List Addr)} {μ:Mem} {m:Str→Option Value} (S:Stt κ c s σ ρ μ m):Stt κ c s [] ρ μ m:=⟨S.inv,fun i v h=>by simp at h,S.nb,S.gens,S.os⟩
theorem zes.later {κ:KK} {c:Cx} {s s₀:Shared} {ρ ρ₀:List (List Addr)} {Q:Flow→Shared→Prop} (l:zaG c ρ₀ s₀ s) (g:zbj s₀ ρ₀ ρ) {f:Fw} {μ:Mem} (h:zes κ c s₀ ρ₀ Q f μ):zes κ c s ρ Q f μ:=by
 cases f with
 | next σ'=>exact fun s' ρ' m' S l' g'=>h s' ρ' m' S (l.trans g l') (g.trans g' l.1)
 | ret v=>exact fun s' ρ' m' val S l' g' r=>h s' ρ' m' val S (l.trans g l') (g.trans g' l.1) r
theorem PostC.later {κ:KK} {c:Cx} {s s₀:Shared} {ρ ρ₀:List (List Addr)} {E:Value→Shared→Prop} {Q:Flow→Shared→Prop} (l:zaG c ρ₀ s₀ s) (g:zbj s₀ ρ₀ ρ) (hn:c.nb≤ρ₀.length) {r:RX Fw} (h:za6 κ c s₀ ρ₀ E r (zes κ c s₀ ρ₀ Q)):za6 κ c s ρ E r (zes κ c s ρ Q):=by
 have:=za6.later (r:=r) (G:=.ok) (K:=zes κ c s₀ ρ₀ Q) (K':=zes κ c s ρ Q) l (g.grow hn) (by rw [RX.bind_ok];exact h) fun v μ q=>zes.later l g q
 exact this
theorem zsn {κ:KK} {n:Nat} {sc:Scope}:CE κ n sc [] zaz:=by
 refine ⟨?_⟩
 intro c hc ok σ μ ρ m s Q E S H
 exact wpAny_execs_nil (H s ρ m S .refl .refl)
theorem zvY {κ:KK} {n:Nat} {sc:Scope} {st:Stmt} {rest:List Stmt} {G H:CF} (h1:CS κ n sc st G) (h2:CE κ n sc rest H):CE κ n sc (st :: rest) (zaj G H):=by
 refine ⟨?_⟩
 intro c hc ok σ μ ρ m s Q E S P
 refine wpAny_execs_cons (h1.run c hc ok σ μ ρ m s _ E S ?_)
 unfold zaj at P
 cases q:G σ μ with
 | stuck=>rw [q] at P;exact P.elim
 | exc x μ'=>rw [q] at P;exact P
 | ok f μ'=>
  rw [q] at P
  cases f with
  | next σ'=>exact fun s' ρ' m' S' l' g'=>h2.run c hc ok σ' μ' ρ' m' s' Q E S' (PostC.later l' g' S.nbρ P)
  | ret v=>exact fun s' ρ' m' val S' l' g' r=>P s' ρ' m' val S' l' g' r
theorem zso {κ:KK} {n:Nat} {sc:Scope} {st:Stmt} {G:CF} (h:CS κ n sc st G):CE κ n sc [st] G:=by
 refine ⟨?_⟩
 intro c hc ok σ μ ρ m s Q E S P
 refine wpAny_execs_cons (h.run c hc ok σ μ ρ m s _ E S ?_)
 cases q:G σ μ with
 | stuck=>rw [q] at P;exact P.elim
 | exc x μ'=>rw [q] at P;exact P
 | ok f μ'=>
  rw [q] at P
  cases f with
  | next σ'=>exact fun s' ρ' m' S' l' g'=>wpAny_execs_nil (P s' ρ' m' S' l' g')
  | ret v=>exact fun s' ρ' m' val S' l' g' r=>P s' ρ' m' val S' l' g' r
theorem SE.go {κ:KK} {n:Nat} {sc:Scope} {e:Expr} {F:EF} (x:SE κ n sc e F) {c:Cx} (hc:c.sc=sc) (ok:zbx n c) {σ:Loc} {μ:Mem} {ρ:List (List Addr)} {m:Str→Option Value} {s:Shared} {Q:Value→Shared→Prop} {E:Value→Shared→Prop}
  (S:Stt κ c s σ ρ μ m) {G:V→Mem→RX Fw} {Q':Flow→Shared→Prop} (h:za6 κ c s ρ E ((F σ μ).bind G) (zes κ c s ρ Q'))
  (k:∀ v μ' s' ρ' val,Stt κ c s' σ ρ' μ' m→RV κ.w (Im s'.heap ρ' c.fr) ρ' v val→zaG c ρ s s'→zbj s ρ ρ'→za6 κ c s' ρ' E (G v μ') (zes κ c s' ρ' Q')→Q val s') :
  wpAny (model pg κ.w) c.A (eval e c.env) Q E s:=
 x.next hc ok S .refl .refl S.nbρ h fun v μ' s' ρ' val S' l' g' x_ x_ r H=>k v μ' s' ρ' val S' r l' g' (PostC.later l' g' S.nbρ H)
theorem zrg {c:Cx} {n:Nat} (ok:zbx n c) {i j:Nat} {x y:Str} {k k':NameKind} (hi:c.sc.names[i]? = some (x,k)) (hj:c.sc.names[j]? = some (y,k')) (h:x=y):i=j:=by
 subst h
 have h1:(c.sc.names.map (·.1))[i]? = some x:=by rw [List.getElem?_map,hi];rfl
 have h2:(c.sc.names.map (·.1))[j]? = some x:=by rw [List.getElem?_map,hj];rfl
 have hl:=(List.getElem?_eq_some_iff.mp h1).1
 exact (List.getElem?_inj hl ok.names).mp (h1.trans h2.symm)
theorem Stt.store {κ:KK} {c:Cx} {s:Shared} {σ:Loc} {ρ:List (List Addr)} {μ:Mem} {m:Str→Option Value} (S:Stt κ c s σ ρ μ m) {n:Nat} (ok:zbx n c) {i:Nat} {x:Str} (hi:c.sc.names[i]? = some (x,NameKind.local)) {v:V} {val:Value}
  (r:RV κ.w (Im s.heap ρ c.fr) ρ v val) {E:Value→Shared→Prop} {Q:Unit→Shared→Prop} (h:∀ s' m',Stt κ c s' (σ.set i (some v)) ρ μ m'→zaG c ρ s s'→Q () s'):wpAny (model pg κ.w) c.A (storeName c.env x val) Q E s:=by
 refine wpAny_storeName_local (zfQ (zbq ok.names hi)) S.fr.ns (fun h' hn hs=>?_) (by show (c.sc.kind == .class || (c.sc.kind == .module && c.L != mainGlobals))=false;rw [ok.kind];rfl)
 have hx:Heap.ExtBut c.L s.heap h':=hs.extBut
 have hl:zaG c ρ s { s with heap:=h',toks:=s.toks+1 }:=by
  refine ⟨fun a o e=>?_,fun a o ⟨x,_,z⟩=>hx a o (by simp [Cx.fr] at z;exact z.1) x⟩
  by_cases q:a=c.L
  ·subst q;obtain ⟨o',_,_,h',_⟩:=hn;exact ⟨o',h'⟩
  ·exact ⟨o,hx a o q e⟩
 have hk:c.env.scope.kind = .function:=ok.kind
 refine h _ (fun y=>if y=x then some val else m y) ⟨S.inv.ext (f:=⟨c.L,.act c.env m⟩) (f':=⟨c.L,.act c.env (fun y=>if y=x then some val else m y)⟩) rfl hx ⟨hn,rfl,hk⟩,fun j u hj=>?_,S.nb,S.gens,S.os⟩ hl
 rw [List.getElem?_set] at hj
 split at hj
 ·rename_i e
  subst e
  split at hj
  ·cases hj
   exact ⟨x,.local,val,hi,if_pos rfl,r.mono (hl.im .refl) fun x_ x_ e=>e⟩
  ·cases hj
 ·rename_i e
  obtain ⟨y,kd,w,h1,h2,h3⟩:=S.loc j u hj
  refine ⟨y,kd,w,h1,?_,h3.mono (hl.im .refl) fun x_ x_ e=>e⟩
  cases kd <;> first | exact h2.elim | exact h2 | exact (if_neg fun q=>e (zrg ok hi h1 q.symm)).trans h2
structure Tg (κ:KK) (n:Nat) (sc:Scope) (t:Expr) (B:V→Loc→Option Loc):Prop where
 run:∀ c,c.sc=sc→zbx n c→∀ σ μ ρ m s v val (Q:Unit→Shared→Prop) E,Stt κ c s σ ρ μ m→RV κ.w (Im s.heap ρ c.fr) ρ v val→∀ σ',B v σ=some σ'→(∀ s' m',Stt κ c s' σ' ρ μ m'→zaG c ρ s s'→Q () s')→wpAny (model pg κ.w) c.A (assign t c.env val) Q E s
noncomputable def zat (i:Nat):V→Loc→Option Loc:=fun v σ=>some (σ.set i (some v))
theorem zmD {κ:KK} {n:Nat} {sc:Scope} {x:Str} {pos:Pos} {i:Nat} (hi:sc.names[i]? = some (x,NameKind.local)):Tg κ n sc (.Name x pos) (zat i):=by
 refine ⟨?_⟩
 rintro c rfl ok σ μ ρ m s v val Q E S r σ' hb H
 cases hb
 exact wpAny_assign_Name (S.store ok hi r H)
inductive Nms (sc:Scope):List Expr→List Nat→Prop
 | nil:Nms sc [] []
 | cons {x pos i es is}:sc.names[i]? = some (x,NameKind.local)→Nms sc es is→Nms sc (.Name x pos :: es) (i :: is)
noncomputable def zjp:List Nat→List D→Loc→Loc
 | i :: is,d :: ds,σ=>zjp is ds (σ.set i (some (.d d)))
 | _,_,σ=>σ
noncomputable def zdI (is:List Nat):V→Loc→Option Loc
 | .d (.tup ds),σ=>if ds.length=is.length then some (zjp is ds σ) else none
 | _,_=>none
theorem zqw {sc:Scope} {es:List Expr} {is:List Nat} (h:Nms sc es is) (env:Env):(assignEach es env).length=is.length∧(assignEach es env).findIdx? (·.1)=none:=by
 induction h with
 | nil=>exact ⟨rfl,rfl⟩
 | cons _ _ ih=>exact ⟨by show (_ :: assignEach _ env).length=_;simp [ih.1],by show (List.findIdx? _ ((false,_) :: assignEach _ env))=none;rw [List.findIdx?_cons];simp [ih.2]⟩
theorem zvZ {κ:KK} {n:Nat} {c:Cx} {es:List Expr} {is:List Nat} (h:Nms c.sc es is) (ok:zbx n c):∀ {σ:Loc} {μ:Mem} {ρ:List (List Addr)} {m:Str→Option Value} {s₀ s:Shared} {ds:List D} {vs:List Value} {Q:Unit→Shared→Prop} {E:Value→Shared→Prop},
  Stt κ c s σ ρ μ m→zaG c ρ s₀ s→zaC κ.w (Im s.heap ρ c.fr) ds vs→(∀ s' m',Stt κ c s' (zjp is ds σ) ρ μ m'→zaG c ρ s₀ s'→Q () s')→wpAny (model pg κ.w) c.A (assignInOrder ((assignEach es c.env).map (·.2)) vs) Q E s:=by
 induction h with
 | nil=>
  intro σ μ ρ m s₀ s ds vs Q E S l r H
  have:assignInOrder ((assignEach [] c.env).map (·.2)) vs=pure ():=by cases vs <;> rfl
  rw [this]
  exact wpAny_pure (H s m (by cases ds <;> exact S) l)
 | cons hi _ ih=>
  intro σ μ ρ m s₀ s ds vs Q E S l r H
  cases r with
  | nil=>exact wpAny_pure (H s m S l)
  | cons a b=>
   show wpAny _ _ (do holding _ (assign (.Name _ _) c.env _);assignInOrder ((assignEach _ c.env).map (·.2)) _) _ _ _
   refine wpAny_bind (wpAny_holding (wpAny_assign_Name (S.store ok hi (.d a) fun s' m' S' l'=>?_)))
   exact ih S' (l.trans .refl l') (b.mono (l'.im .refl)) H
set_option tactic.hygienic true in
theorem zsp {κ:KK} {n:Nat} {sc:Scope} {es:List Expr} {is:List Nat} {k} {pos:Pos} (h:Nms sc es is):Tg κ n sc (.Tuple es k pos) (zdI is):=by
 refine ⟨?_⟩
 rintro c rfl ok σ μ ρ m s v val Q E S r σ' hb H
 unfold zdI at hb
 split at hb
 ·split at hb
  ·rename_i ds hl
   cases hb
   obtain ⟨a,vs,n',rfl,ht,hvs⟩:=(RV.view S r rfl).tup_inv fun a o h=>h.1
   have e:=hvs.length
   refine wpAny_assign_Tuple (items:=vs.toArray) ok.handled ⟨_,ht,rfl,n',rfl⟩ (by rw [(zqw h c.env).1];simp;lia) (zqw h c.env).2 fun h' hx=>?_
   obtain ⟨S',l'⟩:=S.keeps (s':={ s with heap:=h' }) fun b o e=>hx b o (Nat.ne_of_lt (Heap.lt_size e)) e
   exact zvZ h ok S' l' (hvs.mono (l'.im .refl)) H
  ·cases hb
 ·cases hb
noncomputable def zam (B:V→Loc→Option Loc) (F:EF):CF:=fun σ μ=>(F σ μ).bind fun v μ=>match B v σ with
 | some σ'=>.ok (.next σ') μ
 | none=>.stuck
theorem zsq {κ:KK} {n:Nat} {sc:Scope} {x:Str} {p pos:Pos} {e:Expr} {i:Nat} {F:EF} (hs:∀ env,swapsWith e (some (.Name x p)) pos.line env=pure false) (hi:sc.names[i]? = some (x,NameKind.local)) (h:SE κ n sc e F) :
  CS κ n sc (.Assign [.Name x p] e pos) (zam (zat i) F):=by
 refine ⟨?_⟩
 rintro c rfl ok σ μ ρ m s Q E S P
 refine wpAny_Assign_Name (h.go rfl ok S P fun v μ' s' ρ' val S' r l' g' P'=>?_) (hs _)
 exact S'.store ok hi r fun s'' m'' S'' l''=>P' s'' ρ' m'' S'' l'' .refl
set_option tactic.hygienic true in
theorem znd {κ:KK} {n:Nat} {sc:Scope} {es:List Expr} {is:List Nat} {k} {p pos:Pos} {e:Expr} {F:EF} (hs:∀ env,swapsWithSole [.Tuple es k p] e pos.line env=pure false) (hw:∀ env,swappedStores [.Tuple es k p] e env=pure none) (ht:Nms sc es is) (h:SE κ n sc e F) :
  CS κ n sc (.Assign [.Tuple es k p] e pos) (zam (zdI is) F):=by
 refine ⟨?_⟩
 rintro c rfl ok σ μ ρ m s Q E S P
 refine Assign_Tuple (h.go rfl ok S P fun v μ' s' ρ' val S' r l' g' P'=>?_) (hs _) (hw _)
 split at P'
 ·rename_i σ' hb
  exact (zsp ht).run c rfl ok σ μ' ρ' m s' v val _ _ S' r σ' hb fun s'' m'' S'' l''=>P' s'' ρ' m'' S'' l'' .refl
 ·exact P'.elim
noncomputable def zaq (F:EF):CF:=fun σ μ=>(F σ μ).bind fun v μ=>.ok (.ret v) μ
theorem zsr {κ:KK} {n:Nat} {sc:Scope} {e:Expr} {pos:Pos} {F:EF} (h:SE κ n sc e F):CS κ n sc (.Return (some e) pos) (zaq F):=by
 refine ⟨?_⟩
 rintro c rfl ok σ μ ρ m s Q E S P
 exact wpAny_Return_some (h.go rfl ok S P fun v μ' s' ρ' val S' r l' g' P'=>P' s' ρ' m val S'.blind .refl .refl r)
noncomputable def zaY (F:EF):CF:=fun σ μ=>(F σ μ).bind fun v μ=>match v with
 | .d .none=>.ok (.next σ) μ
 | _=>.stuck
theorem zv0 {κ:KK} {n:Nat} {sc:Scope} {e:Expr} {pos:Pos} {F:EF} (hs:∀ env,swapsWith e none pos.line env=pure false) (h:SE κ n sc e F):CS κ n sc (.Expr e pos) (zaY F):=by
 refine ⟨?_⟩
 rintro c rfl ok σ μ ρ m s Q E S P
 refine wpAny_Expr (h.go rfl ok S P fun v μ' s' ρ' val S' r l' g' P'=>?_) ?_ (hs _)
 ·cases v with
  | ref k=>exact P'.elim
  | d x=>
   cases x with
   | none=>
    have:val = .none:=by cases r.d_inv;rfl
    subst this
    exact P' s' ρ' m S' .refl .refl
   | _=>exact P'.elim
 ·show (c.sc.kind == .module && _)=false
  rw [ok.kind];rfl
noncomputable def kIf (T:TF) (G H:CF):CF:=fun σ μ=>(T σ μ).bind fun b μ=>if b then G σ μ else H σ μ
theorem zy8 {κ:KK} {n:Nat} {sc:Scope} {e:Expr} {b1 b2:List Stmt} {pos:Pos} {T:TF} {G H:CF} (h:ST κ n sc e T) (h1:CE κ n sc b1 G) (h2:CE κ n sc b2 H):CS κ n sc (.If e b1 b2 pos) (kIf T G H):=by
 refine ⟨?_⟩
 rintro c rfl ok σ μ ρ m s Q E S P
 refine wpAny_If (h.next rfl ok S .refl .refl S.nbρ P fun b μ' s' ρ' S' l' g' P'=>?_)
 have P2:=PostC.later l' g' S.nbρ P'
 cases b with
 | true=>exact h1.run c rfl ok σ μ' ρ' m s' Q E S' P2
 | false=>exact h2.run c rfl ok σ μ' ρ' m s' Q E S' P2
theorem zkO {h:Heap} {κ:KK} {fs:List Fm} {ρ:List (List Addr)} {μ:Mem} (I:Inv κ h fs ρ μ):∀ b,b∈(zod fs).filterMap (·.frame)→∃ f∈fs,∃ e m,f=⟨b,.act e m⟩:=by
 intro b hb
 obtain ⟨e,he,hf⟩:=List.mem_filterMap.mp hb
 obtain ⟨f,hfm,hfe⟩:=List.mem_filterMap.mp he
 obtain ⟨L,k⟩:=f
 cases k with
 | pin o=>cases hfe
 | act e' m=>
  cases hfe
  have:=(I.ns _ hfm).2.1
  rw [this] at hf;cases hf
  exact ⟨_,hfm,_,_,rfl⟩
theorem Stt.slots {κ:KK} {c:Cx} {s:Shared} {σ:Loc} {ρ:List (List Addr)} {μ:Mem} {m:Str→Option Value} (S:Stt κ c s σ ρ μ m) {h':Heap} (hs:Heap.SlotsOnly ((zod (c.fs m)).filterMap (·.frame)) s.heap h') :
  Stt κ c { s with heap:=h' } σ ρ μ m∧zaG c ρ s { s with heap:=h' }:=by
 have hI:=S.inv
 have hnd:=hI.nodup
 rw [List.nodup_append] at hnd
 have out:∀ b,b∉c.fr→h'.get? b=s.heap.get? b:=fun b hb=>hs.2.1 b fun q=>by
  obtain ⟨f,hf,e,m',rfl⟩:=zkO hI b q
  exact hb (List.mem_map_of_mem (f:=(·.L)) hf)
 have outρ:∀ b∈ρ.flatten,h'.get? b=s.heap.get? b:=fun b hb=>out b fun q=>hnd.2.2 b hb b q rfl
 have hL:zaG c ρ s { s with heap:=h' }:=⟨fun a o e=>let ⟨sl,q⟩:=hs.2.2 a o e;⟨_,q⟩,fun a o h=>(out a h.2.2).trans h.1⟩
 have hIm:=hL.im (.refl (s:=s))
 refine ⟨⟨⟨fun b o e=>?_,fun f hf=>?_,hI.nodup,hI.new,hI.newF,hI.len,fun k o ho=>?_⟩,S.loc.mono hIm fun x_ x_ e=>e,S.nb,S.gens,S.os⟩,hL⟩
 ·exact (out b fun q=>(hI.baseNot e).2 q).trans (hI.keep b o e)
 ·obtain ⟨L,k⟩:=f
  have:=hI.ns _ hf
  cases k with
  | act e m'=>
   obtain ⟨⟨o,es,ep,ho,hd,r⟩,x⟩:=this
   obtain ⟨sl,hq⟩:=hs.2.2 _ _ ho
   exact ⟨⟨_,es,ep,hq,hd,r⟩,x⟩
  | pin o=>
   refine (hs.2.1 L fun q=>?_).trans this
   obtain ⟨f,hf',e,m',hfe⟩:=zkO hI L q
   have h1:=hnd.2.1
   obtain ⟨i,hi,e1⟩:=List.getElem_of_mem hf
   obtain ⟨j,hj,e2⟩:=List.getElem_of_mem hf'
   have h3:((c.fs m).map (·.L))[i]? = ((c.fs m).map (·.L))[j]?:=by simp [hi,hj,e1,e2,hfe]
   have:=(List.getElem?_inj (by simpa using hi) h1).mp h3
   subst this
   rw [e1] at e2;rw [← e2] at hfe;cases hfe
 ·obtain ⟨l,hl,M⟩:=hI.objs k o ho
  exact ⟨l,hl,M.keep (fun a ha ob e=>(outρ a (List.mem_flatten.mpr ⟨l,List.mem_of_getElem? hl,ha⟩)).trans e) hIm⟩
structure Exc (κ:KK) (c:Cx) (s:Shared) (ρ:List (List Addr)) (μ:Mem) (x:Xn) (e dx:Addr) (t:List Addr) (m:Str→Option Value):Prop where
 stt:Stt κ c s [] (ρ ++ [e :: dx :: t]) (μ ++ [x.mo]) m
 nb:c.nb≤μ.length
theorem Exc.of {κ:KK} {c:Cx} {s:Shared} {ρ:List (List Addr)} {μ:Mem} {x:Xn} {e:Addr} {fp:List Addr} {m:Str→Option Value} (S:Stt κ c s [] (ρ ++ [e :: fp]) (μ ++ [x.mo]) m) (h:c.nb≤μ.length):∃ dx t,fp=dx :: t∧Exc κ c s ρ μ x e dx t m:=by
 have hl:ρ.length=μ.length:=by have:=S.inv.len;simpa using this
 obtain ⟨l,hl',M⟩:=S.inv.objs μ.length x.mo (by simp)
 rw [← hl] at hl'
 simp at hl'
 subst hl'
 obtain ⟨r,w⟩:=x
 obtain ⟨_,dx,t,e,q⟩:=M.inv
 exact ⟨dx,t,(List.cons.inj e).2,(List.cons.inj e).2▸S,h⟩
theorem Exc.ob {κ:KK} {c:Cx} {s:Shared} {ρ:List (List Addr)} {μ:Mem} {r:Int} {w:List Nat} {e dx:Addr} {t:List Addr} {m:Str→Option Value} (S:Exc κ c s ρ μ (.asm r w) e dx t m) :
  zh3 κ s.heap (Im s.heap (ρ ++ [e :: dx :: t]) c.fr) r w e dx t:=by
 have hl:ρ.length=μ.length:=by have:=S.stt.inv.len;simpa using this
 obtain ⟨l,hl',M⟩:=S.stt.inv.objs μ.length (Xn.asm r w).mo (by simp)
 rw [← hl] at hl'
 simp at hl'
 subst hl'
 obtain ⟨_,_,_,e,q⟩:=M.inv
 cases e
 exact q
theorem Exc.idx {κ:KK} {c:Cx} {s:Shared} {ρ:List (List Addr)} {μ:Mem} {x:Xn} {e dx:Addr} {t:List Addr} {m:Str→Option Value} (S:Exc κ c s ρ μ x e dx t m):(ρ ++ [e :: dx :: t])[ρ.length]? = some (e :: dx :: t)∧ρ.length=μ.length:=
 ⟨by simp,by have:=S.stt.inv.len;simpa using this⟩
theorem Exc.put {κ:KK} {c:Cx} {s s':Shared} {ρ:List (List Addr)} {μ:Mem} {r:Int} {w:List Nat} {e dx:Addr} {t t':List Addr} {m:Str→Option Value} (S:Exc κ c s ρ μ (.asm r w) e dx t m)
  (hx:∀ b ob,b∉e :: dx :: t→s.heap.get? b=some ob→s'.heap.get? b=some ob) (hn:(e :: dx :: t').Nodup) (hl:∀ a∈t',a∈t∨s.heap.get? a=none) (ht:∀ a∈e :: dx :: t,∃ ob,s'.heap.get? a=some ob)
  (M:zh3 κ s'.heap (Im s.heap (ρ ++ [e :: dx :: t]) c.fr) r w e dx t') (hg:s'.gens=s.gens:=by rfl) (ho:s'.os=s.os:=by rfl) :
  Exc κ c s' ρ μ (.asm r w) e dx t' m∧zaG c (ρ ++ [e :: dx :: t]) s s'∧zea c s (ρ ++ [e :: dx :: t]) (ρ ++ [e :: dx :: t']):=by
 obtain ⟨hi,hlen⟩:=S.idx
 obtain ⟨S',l'⟩:=S.stt.put (l':=e :: dx :: t') (o:=.exc r w) hi hx hn (fun a ha=>by
  rcases List.mem_cons.mp ha with rfl | ha
  ·exact .inl (by simp)
  ·rcases List.mem_cons.mp ha with rfl | ha
   ·exact .inl (by simp)
   ·exact (hl a ha).imp (fun q=>by simp [q]) id) (fun a r e=>by cases e;exact ⟨_,rfl⟩) ht (.exc M) hg ho
 have e1:(ρ ++ [e :: dx :: t]).set ρ.length (e :: dx :: t')=ρ ++ [e :: dx :: t']:=by simp
 have e2:(μ ++ [(Xn.asm r w).mo]).set ρ.length (.exc r w)=μ ++ [(Xn.asm r w).mo]:=by rw [hlen];simp [Xn.mo]
 rw [e1,e2] at S'
 refine ⟨⟨S',S.nb⟩,l',fun k hk=>?_,fun a ha=>?_⟩
 ·have:k < ρ.length:=by rw [hlen];exact Nat.lt_of_lt_of_le hk S.nb
  rw [List.getElem?_append_left this,List.getElem?_append_left this]
 ·rw [List.flatten_append] at ha ⊢
  rcases List.mem_append.mp ha with ha | ha
  ·exact .inl (List.mem_append_left _ ha)
  ·simp at ha
   rcases ha with rfl | rfl | ha
   ·exact .inl (by simp)
   ·exact .inl (by simp)
   ·exact (hl a ha).imp (fun q=>by simp [q]) id
theorem zhb {κ:KK} {c:Cx} {s:Shared} {ρ:List (List Addr)} {μ:Mem} {x:Xn} {e dx:Addr} {t:List Addr} {m:Str→Option Value} {A:Around} (S:Exc κ c s ρ μ x e dx t m) (ht:t≠[]) {f:Option Addr} {Q:Unit→Shared→Prop} {E:Value→Shared→Prop}
  (h:∀ s',Exc κ c s' ρ μ x e dx t m→zaG c (ρ ++ [e :: dx :: t]) s s'→Q () s'):wpAny (model pg κ.w) A (setFlight (.ref e) f) Q E s:=by
 cases x with
 | asm r w=>
  obtain ⟨vs,xs,es,n,h1,h2,h3,h4,h5⟩:=S.ob.ob
  rcases h5 with ⟨h5,_⟩ | ⟨T,cl,ts,rfl,h5,h6,h7⟩
  ·exact absurd h5 ht
  unfold setFlight
  refine wpAny_bind (wpAny_field h1 rfl h5 ?_)
  rw [if_pos (show (Value.ref T != Value.none)=true from by simp)]
  refine wpAny_setField h6 rfl h7 ?_
  have hnd:(e :: dx :: [T]).Nodup:=by
   have:=S.stt.inv.nodup
   rw [List.nodup_append] at this
   exact List.Sublist.nodup (List.sublist_flatten_of_mem (by simp)) this.1
  have hT:e≠T∧dx≠T:=by simp at hnd;exact ⟨hnd.1.2,hnd.2⟩
  have other:∀ b,b≠T→∀ g,(s.heap.update T g).get? b=s.heap.get? b:=fun b hb g=>Heap.get?_update_other _ _ (Ne.symm hb)
  have hT':∀ y,(s.heap.update T (Obj.mapFields (·.setIfInBounds 3 y))).get? T=some { cls:=cl,dict:=none,data:=.fields (ts.setIfInBounds 3 y),slots:=#[] }:=fun y=>by
   rw [Heap.get?_update_self _ h6 rfl];rfl
  obtain ⟨S',l',_⟩:=S.put (s':={ s with heap:=s.heap.update T (Obj.mapFields (·.setIfInBounds 3 (f.elim .none fun f=>rawInt f))) }) (t':=[T])
   (fun b ob hb e'=>(other b (fun q=>hb (by simp [q])) _).trans e') hnd (fun a ha=>.inl ha) (fun a ha=>by
    simp at ha
    rcases ha with rfl | rfl | rfl
    ·exact ⟨_,(other _ hT.1 _).trans h1⟩
    ·exact ⟨_,(other _ hT.2 _).trans h2⟩
    ·exact ⟨_,hT' _⟩)
   ⟨vs,xs,es,n,(other _ hT.1 _).trans h1,(other _ hT.2 _).trans h2,h3,h4,.inr ⟨T,cl,_,rfl,h5,hT' _,by simpa using h7⟩⟩
  exact h _ S' l'
theorem zlg {κ:KK} {c:Cx} {n:Nat} (ok:zbx n c) {s:Shared} {ρ:List (List Addr)} {μ:Mem} {x:Xn} {e dx:Addr} {t:List Addr} {m:Str→Option Value} (S:Exc κ c s ρ μ x e dx t m) {Q:Unit→Shared→Prop} {E:Value→Shared→Prop}
  (h:∀ s' t',t'≠[]→Exc κ c s' ρ μ x e dx t' m→zaG c (ρ ++ [e :: dx :: t]) s s'→zea c s (ρ ++ [e :: dx :: t]) (ρ ++ [e :: dx :: t'])→Q () s'):wpAny (model pg κ.w) c.A (noteFrame (.ref e) c.env) Q E s:=by
 cases x with
 | asm r w=>
  have entry:∀ (s:Shared) (head:Value) (b:Bool) (t:List Addr),Exc κ c s ρ μ (.asm r w) e dx t m→(∀ s' t',t'≠[]→Exc κ c s' ρ μ (.asm r w) e dx t' m→zaG c (ρ ++ [e :: dx :: t]) s s'→zea c s (ρ ++ [e :: dx :: t]) (ρ ++ [e :: dx :: t'])→Q () s')→
    wpAny (model pg κ.w) c.A (do let a ← frameOf c.env;let pl ← entryPlaceOf c.L b;let y ← EntryCells.newEntry head a .none (rawInt c.L) .none pl;setField (.ref e) 1 y) Q E s:=by
   intro s head b t S h
   refine wpAny_bind (wpAny_frameOf_fun (base:=κ.B) (L:=c.L) ok.frames S.stt.inv.funFrames rfl fun h₁ hs₁=>?_)
   obtain ⟨S1,l1⟩:=S.stt.slots hs₁
   have X1:Exc κ c { s with heap:=h₁ } ρ μ (.asm r w) e dx t m:=⟨S1,S.nb⟩
   refine wpAny_bind (wpAny_entryPlaceOf fun pl hpl=>?_)
   unfold EntryCells.newEntry newFields
   refine wpAny_bind (wpAny_newObj_type ?_ (hpl.sizeOk5 _ _ _ _ _))
   obtain ⟨vs,xs,es,k,q1,q2,q3,q4,q5⟩:=X1.ob.ob
   generalize ho:({ cls:=.type "traceback",dict:=none,data:=.fields ([head,.ref c.L,.none,rawInt c.L,.none] ++ (if pl.isEmpty then List.replicate 6 Value.none else pl)).toArray }:Obj)=ob
   have hv1:1 < vs.size:=by
    rcases q5 with ⟨_,q5⟩ | ⟨T,cl,ts,_,q5,_⟩ <;> exact (Array.getElem?_eq_some_iff.mp q5).1
   have g1:(h₁.push ob).get? e=_:=Heap.get?_push_of_some _ q1
   refine wpAny_setField g1 rfl hv1 ?_
   have hTe:h₁.objs.size≠e:=Nat.ne_of_gt (Heap.lt_size q1)
   have hTd:h₁.objs.size≠dx:=Nat.ne_of_gt (Heap.lt_size q2)
   have hed:e≠dx:=by
    have:=S1.inv.nodup
    rw [List.nodup_append] at this
    have:=List.Sublist.nodup (List.sublist_flatten_of_mem (l:=e :: dx :: t) (by simp)) this.1
    simp at this;exact this.1.1
   have other:∀ b,b≠e→∀ g,((h₁.push ob).update e g).get? b=(h₁.push ob).get? b:=fun b hb g=>Heap.get?_update_other _ _ (Ne.symm hb)
   have hself:((h₁.push ob).update e (Obj.mapFields (·.setIfInBounds 1 (Value.ref h₁.objs.size)))).get? e=some { cls:=.ref κ.X,dict:=some dx,data:=.fields (vs.setIfInBounds 1 (Value.ref h₁.objs.size)),slots:=#[] }:=by
    rw [Heap.get?_update_self _ g1 rfl];rfl
   have hob:ob.isFreed=false:=by subst ho;rfl
   obtain ⟨S2,l2,gr⟩:=X1.put (s':={ s with heap:=(h₁.push ob).update e (Obj.mapFields (·.setIfInBounds 1 (Value.ref h₁.objs.size))) }) (t':=[h₁.objs.size])
    (fun b ob' hb e'=>(other b (fun q=>hb (by simp [q])) _).trans (Heap.get?_push_of_some _ e')) (by simp;exact ⟨⟨hed,Ne.symm hTe⟩,Ne.symm hTd⟩) (fun a ha=>.inr (by simp at ha;subst ha;exact zbu (Nat.le_refl _)))
    (fun a ha=>by
     have:=X1.stt.inv.has a (by simp at ha;simp;rcases ha with rfl | rfl | ha <;> simp [*])
     obtain ⟨ob',hob'⟩:=this
     by_cases q:a=e
     ·subst q;exact ⟨_,hself⟩
     ·exact ⟨ob',(other a q _).trans (Heap.get?_push_of_some _ hob')⟩)
    ⟨_,xs,es,k,hself,(other _ (Ne.symm hed) _).trans (Heap.get?_push_of_some _ q2),q3,q4,.inr ⟨h₁.objs.size,.type "traceback",_,rfl,by simp [hv1],by rw [other _ hTe,Heap.get?_push_size _ hob,← ho],by
     simp only [List.size_toArray,List.length_append,List.length_cons,List.length_nil];lia⟩⟩
   refine h _ _ (by simp) S2 (l1.trans .refl l2) ?_
   exact ⟨gr.low,fun a ha=>(gr.new a ha).imp id l1.1.none⟩
  obtain ⟨vs,xs,es,k,q1,q2,q3,q4,q5⟩:=S.ob.ob
  unfold noteFrame
  simp only [show c.env.frame=some c.L from rfl]
  rcases q5 with ⟨rfl,q5⟩ | ⟨T,cl,ts,rfl,q5,q6,q7⟩
  ·refine wpAny_bind (wpAny_field q1 rfl q5 ?_)
   rw [if_neg (by decide)]
   exact entry s _ _ [] S h
  ·refine wpAny_bind (wpAny_field q1 rfl q5 ?_)
   rw [if_pos (show (Value.ref T != Value.none)=true from by simp)]
   refine wpAny_bind (wpAny_field q6 rfl (x:=ts[3]) (by simp [q7]) ?_)
   split
   ·exact wpAny_pure (h s [T] (by simp) S .refl .refl)
   ·have hnd:(e :: dx :: [T]).Nodup:=by
     have:=S.stt.inv.nodup
     rw [List.nodup_append] at this
     exact List.Sublist.nodup (List.sublist_flatten_of_mem (by simp)) this.1
    have hT:e≠T∧dx≠T:=by simp at hnd;exact ⟨hnd.1.2,hnd.2⟩
    have other:∀ b,b≠T→∀ g,(s.heap.update T g).get? b=s.heap.get? b:=fun b hb g=>Heap.get?_update_other _ _ (Ne.symm hb)
    have hT':(s.heap.update T (Obj.mapFields (·.setIfInBounds 3 .none))).get? T=some { cls:=cl,dict:=none,data:=.fields (ts.setIfInBounds 3 .none),slots:=#[] }:=by
     rw [Heap.get?_update_self _ q6 rfl];rfl
    obtain ⟨S',l',_⟩:=S.put (s':={ s with heap:=s.heap.update T (Obj.mapFields (·.setIfInBounds 3 .none)) }) (t':=[T])
     (fun b ob hb e'=>(other b (fun q=>hb (by simp [q])) _).trans e') hnd (fun a ha=>.inl ha) (fun a ha=>by
      simp at ha
      rcases ha with rfl | rfl | rfl
      ·exact ⟨_,(other _ hT.1 _).trans q1⟩
      ·exact ⟨_,(other _ hT.2 _).trans q2⟩
      ·exact ⟨_,hT'⟩)
     ⟨vs,xs,es,k,(other _ hT.1 _).trans q1,(other _ hT.2 _).trans q2,q3,q4,.inr ⟨T,cl,_,rfl,q5,hT',by simpa using q7⟩⟩
    refine wpAny_bind (wpAny_setField q6 rfl q7 ?_)
    refine entry _ _ _ [T] S' fun s' t' ht S2 l2 g2=>h s' t' ht S2 (l'.trans .refl l2) ⟨g2.low,fun a ha=>(g2.new a ha).imp id l'.1.none⟩
noncomputable def zn1 (κ:KK) (c:Cx) (E:Value→Shared→Prop):Value→Shared→Prop:=
 notedBy (model pg κ.w) c.A c.env fun e s'=>cameBackBy (model pg κ.w) c.A c.env E e s'
theorem zlh {κ:KK} {c:Cx} {n:Nat} (ok:zbx n c) {E:Value→Shared→Prop} {s:Shared} {ρ:List (List Addr)} {x:Xn} {μ':Mem}
  (h:∀ s' ρ' m' a fp,Stt κ c s' [] (ρ' ++ [a :: fp]) (μ' ++ [x.mo]) m'→zaG c ρ s s'→zea c s ρ (ρ' ++ [a :: fp])→c.nb≤μ'.length→E (.ref a) s') :
  ∀ s' ρ' m' a fp,Stt κ c s' [] (ρ' ++ [a :: fp]) (μ' ++ [x.mo]) m'→zaG c ρ s s'→zea c s ρ (ρ' ++ [a :: fp])→c.nb≤μ'.length→zn1 κ c E (.ref a) s':=by
 intro s' ρ' m' a fp S l g hn
 obtain ⟨dx,t,rfl,X⟩:=Exc.of S hn
 refine zlg ok X fun s2 t2 ht X2 l2 g2=>?_
 show wpAny _ _ (field (.ref a) 1 >>= _) _ _ _
 cases x with
 | asm r w=>
  obtain ⟨vs,xs,es,k,q1,q2,q3,q4,q5⟩:=X2.ob.ob
  rcases q5 with ⟨q5,_⟩ | ⟨T,cl,ts,rfl,q5,q6,q7⟩
  ·exact absurd q5 ht
  refine wpAny_bind (wpAny_field q1 rfl q5 ?_)
  rw [if_neg (show ¬ ((Value.ref T == Value.none)=true) from by simp)]
  refine zhb X2 (by simp) fun s3 X3 l3=>?_
  exact h s3 ρ' m' a _ X3.stt (l.transG g (l2.transG g2 l3)) (g.trans g2 l.1) hn
noncomputable def Cx.pin (c:Cx) (I:Addr) (o:Obj):Cx:={ c with rest:=⟨I,.pin o⟩ :: c.rest }
theorem zbx.pin {n:Nat} {c:Cx} (ok:zbx n c) (I:Addr) (o:Obj):zbx n (c.pin I o):=⟨ok.frames,ok.kind,ok.handled,ok.depth,ok.units,ok.names,fun x val h=>let ⟨ca,ob,h1,h2,h3⟩:=ok.cells x val h;⟨ca,ob,h1,List.mem_cons_of_mem _ h2,h3⟩⟩
theorem Inv.swap {κ:KK} {h:Heap} {f g:Fm} {fs:List Fm} {ρ:List (List Addr)} {μ:Mem} (I:Inv κ h (f :: g :: fs) ρ μ):Inv κ h (g :: f :: fs) ρ μ:=by
 have hm:∀ a,a∈(f :: g :: fs).map (·.L)↔a∈(g :: f :: fs).map (·.L):=fun a=>by simp only [List.map_cons,List.mem_cons];exact ⟨fun q=>by rcases q with q | q | q <;> simp [q],fun q=>by rcases q with q | q | q <;> simp [q]⟩
 refine ⟨I.keep,fun x hx=>I.ns x (by simp at hx ⊢;rcases hx with q | q | q <;> simp [q]),?_,I.new,fun x hx=>I.newF x (by simp at hx ⊢;rcases hx with q | q | q <;> simp [q]),I.len,fun k o ho=>?_⟩
 ·have:=I.nodup
  refine List.Perm.nodup ?_ this
  exact List.Perm.append_left _ (by simp only [List.map_cons];exact List.Perm.swap ..)
 ·obtain ⟨l,hl,M⟩:=I.objs k o ho
  exact ⟨l,hl,M.keep (fun x_ x_ x_ e=>e) fun a o ⟨x,y,z⟩=>⟨x,y,fun q=>z ((hm a).mpr q)⟩⟩
theorem Inv.tail {κ:KK} {h:Heap} {f:Fm} {fs:List Fm} {ρ:List (List Addr)} {μ:Mem} (I:Inv κ h (f :: fs) ρ μ):Inv κ h fs ρ μ:=by
 refine ⟨I.keep,fun x hx=>I.ns x (by simp [hx]),?_,I.new,fun x hx=>I.newF x (by simp [hx]),I.len,fun k o ho=>?_⟩
 ·have:=I.nodup
  exact this.sublist (List.Sublist.append (List.Sublist.refl _) (by simp))
 ·obtain ⟨l,hl,M⟩:=I.objs k o ho
  exact ⟨l,hl,M.keep (fun x_ x_ x_ e=>e) fun a o ⟨x,y,z⟩=>⟨x,y,fun q=>z (by simp at q ⊢;exact .inr q)⟩⟩
theorem Inv.cons {κ:KK} {h h':Heap} {f:Fm} {fs:List Fm} {ρ:List (List Addr)} {μ:Mem} (I:Inv κ h fs ρ μ) (hk:∀ b o,h.get? b=some o→h'.get? b=some o) (hf:zh2 h' f) (hn:h.get? f.L=none) (hz:κ.B.objs.size≤f.L):Inv κ h' (f :: fs) ρ μ:=by
 have hout:f.L∉ρ.flatten ++ fs.map (·.L):=fun q=>by obtain ⟨o,e⟩:=I.has _ q;rw [hn] at e;cases e
 refine ⟨fun b o e=>hk b o (I.keep b o e),fun x hx=>?_,?_,I.new,fun x hx=>?_,I.len,fun k o ho=>?_⟩
 ·rcases List.mem_cons.mp hx with rfl | hx
  ·exact hf
  ·exact (I.ns x hx).keep fun o=>hk _ o
 ·have:=I.nodup
  rw [List.map_cons]
  exact List.perm_middle.symm.nodup (List.nodup_cons.mpr ⟨hout,this⟩)
 ·rcases List.mem_cons.mp hx with rfl | hx
  ·exact hz
  ·exact I.newF x hx
 ·obtain ⟨l,hl,M⟩:=I.objs k o ho
  refine ⟨l,hl,M.keep (fun a x_ o e=>hk a o e) fun a o ⟨x,y,z⟩=>⟨hk a o x,y,fun q=>?_⟩⟩
  rw [List.map_cons] at q
  rcases List.mem_cons.mp q with q | q
  ·rw [q,hn] at x;cases x
  ·exact z q
theorem Stt.pin {κ:KK} {c:Cx} {s s':Shared} {σ:Loc} {ρ:List (List Addr)} {μ:Mem} {m:Str→Option Value} (S:Stt κ c s σ ρ μ m) {I:Addr} {o:Obj} (hk:∀ b o,s.heap.get? b=some o→s'.heap.get? b=some o) (hI:I=s.heap.objs.size) (ho:s'.heap.get? I=some o)
  (hg:s'.gens=s.gens:=by rfl) (hos:s'.os=s.os:=by rfl):Stt κ (c.pin I o) s' σ ρ μ m∧zaG c ρ s s'∧∀ a ob,Im s.heap ρ c.fr a ob→Im s'.heap ρ (c.pin I o).fr a ob:=by
 have hn:s.heap.get? I=none:=zbu (by rw [hI];exact Nat.le_refl _)
 have hz:κ.B.objs.size≤I:=by
  have h1:=S.inv.newF ⟨c.L,.act c.env m⟩ (by simp [Cx.fs])
  have h2:=S.inv.lt c.L (List.mem_append_right _ (by simp [Cx.fs]))
  rw [hI];exact Nat.le_trans h1 (Nat.le_of_lt h2)
 have hIm:∀ a ob,Im s.heap ρ c.fr a ob→Im s'.heap ρ (c.pin I o).fr a ob:=by
  rintro a ob ⟨x,y,z⟩
  refine ⟨hk a ob x,y,fun q=>?_⟩
  have q':a=c.L∨a=I∨a∈c.rest.map (·.L):=by simpa [Cx.fr,Cx.pin] using q
  rcases q' with q | q | q
  ·exact z (by simp [Cx.fr,q])
  ·rw [q,hn] at x;cases x
  ·exact z (List.mem_cons_of_mem _ q)
 refine ⟨⟨?_,S.loc.mono hIm fun x_ x_ e=>e,S.nb,hg.trans S.gens,hos.trans S.os⟩,⟨fun a o e=>⟨o,hk a o e⟩,fun a o e=>hk a o e.1⟩,hIm⟩
 exact (S.inv.cons (f:=⟨I,.pin o⟩) hk ho hn hz).swap
theorem Stt.unpin {κ:KK} {c:Cx} {s:Shared} {σ:Loc} {ρ:List (List Addr)} {μ:Mem} {m:Str→Option Value} {I:Addr} {o:Obj} (S:Stt κ (c.pin I o) s σ ρ μ m):Stt κ c s σ ρ μ m:=
 ⟨(Inv.swap (f:=⟨c.L,.act c.env m⟩) S.inv).tail,S.loc.mono (fun a ob ⟨x,y,z⟩=>⟨x,y,fun q=>z (by
  have q':a=c.L∨a∈c.rest.map (·.L):=by simpa [Cx.fr] using q
  have:a=c.L∨a=I∨a∈c.rest.map (·.L):=q'.imp id .inr
  simpa [Cx.fr,Cx.pin] using this)⟩) fun x_ x_ e=>e,S.nb,S.gens,S.os⟩
theorem Stt.pinned {κ:KK} {c:Cx} {s:Shared} {σ:Loc} {ρ:List (List Addr)} {μ:Mem} {m:Str→Option Value} {I:Addr} {o:Obj} (S:Stt κ (c.pin I o) s σ ρ μ m):s.heap.get? I=some o:=
 S.inv.ns ⟨I,.pin o⟩ (by simp [Cx.fs,Cx.pin])
theorem Stt.repin {κ:KK} {c:Cx} {s s':Shared} {σ:Loc} {ρ:List (List Addr)} {μ:Mem} {m:Str→Option Value} {I:Addr} {o o':Obj} (S:Stt κ (c.pin I o) s σ ρ μ m) (hx:∀ b ob,b≠I→s.heap.get? b=some ob→s'.heap.get? b=some ob) (ho:s'.heap.get? I=some o')
  (hg:s'.gens=s.gens:=by rfl) (hos:s'.os=s.os:=by rfl):Stt κ (c.pin I o') s' σ ρ μ m∧zaG (c.pin I o) ρ s s':=by
 have hl:zaG (c.pin I o) ρ s s':=by
  refine ⟨fun a ob e=>?_,fun a ob e=>hx a ob (fun q=>e.2.2 (by simp [Cx.fr,Cx.pin,q])) e.1⟩
  by_cases q:a=I
  ·exact ⟨o',q▸ho⟩
  ·exact ⟨ob,hx a ob q e⟩
 refine ⟨⟨?_,S.loc.mono (hl.im (.refl (s:=s))) fun x_ x_ e=>e,S.nb,hg.trans S.gens,hos.trans S.os⟩,hl⟩
 exact (Inv.ext (f:=⟨I,.pin o⟩) (f':=⟨I,.pin o'⟩) (Inv.swap (f:=⟨c.L,.act c.env m⟩) S.inv) rfl hx ho).swap
theorem zaG.ofPin {c:Cx} {ρ ρ₀:List (List Addr)} {s s₀ s':Shared} {I:Addr} {o:Obj} (x:zaG c ρ₀ s₀ s) (g:zbj s₀ ρ₀ ρ) (hI:s₀.heap.get? I=none) (y:zaG (c.pin I o) ρ s s'):zaG c ρ₀ s₀ s':=by
 refine ⟨fun a ob e=>let ⟨o',e'⟩:=x.1 a ob e;y.1 a o' e',fun a ob e=>y.2 a ob ?_⟩
 obtain ⟨p,q,r⟩:=x.im g a ob e
 refine ⟨p,q,fun z=>?_⟩
 have z':a=c.L∨a=I∨a∈c.rest.map (·.L):=by simpa [Cx.fr,Cx.pin] using z
 rcases z' with z | z | z
 ·exact r (by simp [Cx.fr,z])
 ·have:=e.1;rw [z,hI] at this;cases this
 ·exact r (List.mem_cons_of_mem _ z)
theorem Stt.lose {κ:KK} {c:Cx} {s s':Shared} {σ:Loc} {ρ:List (List Addr)} {μ:Mem} {m:Str→Option Value} {I:Addr} {o:Obj} (S:Stt κ (c.pin I o) s σ ρ μ m) (hx:∀ b ob,b≠I→s.heap.get? b=some ob→s'.heap.get? b=some ob)
  (hg:s'.gens=s.gens:=by rfl) (hos:s'.os=s.os:=by rfl):Stt κ c s' σ ρ μ m:=by
 have hI:=S.inv
 have hnd:=hI.nodup
 rw [List.nodup_append] at hnd
 have hout:∀ a∈ρ.flatten,a≠I:=fun a ha e=>hnd.2.2 a ha I (by simp [Cx.fs,Cx.pin]) e
 have hfr:∀ f∈c.fs m,f.L≠I:=fun f hf e=>by
  have h2:=hnd.2.1
  have:(c.L :: I :: c.rest.map (·.L)).Nodup:=h2
  simp only [List.nodup_cons,List.mem_cons,not_or] at this
  rcases List.mem_cons.mp hf with rfl | hf
  ·exact this.1.1 e
  ·exact this.2.1 (by rw [← e];exact List.mem_map_of_mem hf)
 have hIm:∀ a ob,Im s.heap ρ (c.pin I o).fr a ob→Im s'.heap ρ c.fr a ob:=by
  rintro a ob ⟨x,y,z⟩
  refine ⟨hx a ob (fun q=>z (by simp [Cx.fr,Cx.pin,q])) x,y,fun q=>z ?_⟩
  have q':a=c.L∨a∈c.rest.map (·.L):=by simpa [Cx.fr] using q
  have:a=c.L∨a=I∨a∈c.rest.map (·.L):=q'.imp id .inr
  simpa [Cx.fr,Cx.pin] using this
 refine ⟨⟨fun b ob e=>hx b ob (fun q=>?_) (hI.keep b ob e),fun f hf=>?_,?_,hI.new,fun f hf=>hI.newF f ?_,hI.len,fun k ob hk=>?_⟩,S.loc.mono hIm fun x_ x_ e=>e,S.nb,hg.trans S.gens,hos.trans S.os⟩
 ·subst q;exact (hI.baseNot e).2 (by simp [Cx.fs,Cx.pin])
 ·refine (hI.ns f ?_).keep fun ob=>hx _ ob (hfr f hf)
  rcases List.mem_cons.mp hf with rfl | hf
  ·exact List.mem_cons_self ..
  ·exact List.mem_cons_of_mem _ (List.mem_cons_of_mem _ hf)
 ·exact (Inv.swap (f:=⟨c.L,.act c.env m⟩) hI).tail.nodup
 ·rcases List.mem_cons.mp hf with rfl | hf
  ·exact List.mem_cons_self ..
  ·exact List.mem_cons_of_mem _ (List.mem_cons_of_mem _ hf)
 ·obtain ⟨l,hl,M⟩:=hI.objs k ob hk
  exact ⟨l,hl,M.keep (fun a ha ob e=>hx a ob (hout a (List.mem_flatten.mpr ⟨l,List.mem_of_getElem? hl,ha⟩)) e) hIm⟩
theorem zaG.lose {κ:KK} {c:Cx} {fs:List Fm} {μ:Mem} {ρ ρ₀:List (List Addr)} {s s₀ s':Shared} {I:Addr} (x:zaG c ρ₀ s₀ s) (g:zbj s₀ ρ₀ ρ) (hI:s₀.heap.get? I=none) (_:Inv κ s.heap fs ρ μ) (hx:∀ b ob,b≠I→s.heap.get? b=some ob→s'.heap.get? b=some ob):zaG c ρ₀ s₀ s':=by
 have hne:∀ {a ob},s₀.heap.get? a=some ob→a≠I:=fun e q=>by rw [q,hI] at e;cases e
 exact ⟨fun a ob e=>let ⟨o',e'⟩:=x.1 a ob e;⟨o',hx a o' (hne e) e'⟩,fun a ob e=>hx a ob (hne e.1) (x.2 a ob e)⟩
theorem zea.ofPin {c:Cx} {s:Shared} {ρ ρ':List (List Addr)} {I:Addr} {o:Obj} (g:zea (c.pin I o) s ρ ρ'):zea c s ρ ρ':=⟨g.low,g.new⟩
noncomputable def zc6 (its:Mem→Option (List D)) (B:V→Loc→Option Loc) (G:CF):Nat→Nat→CF
 | 0,_=>fun x_ x_=>.stuck
 | fuel+1,i=>fun σ μ=>match its μ with
  | none=>.stuck
  | some ds=>match ds[i]? with
   | none=>.ok (.next σ) μ
   | some d=>match B (.d d) σ with
    | none=>.stuck
    | some σ'=>(G σ' μ).bind fun f μ'=>match f with
     | .next σ''=>zc6 its B G fuel (i+1) σ'' μ'
     | .ret v=>.ok (.ret v) μ'
structure Src (κ:KK) (c:Cx) (I:Addr) (its:Mem→Option (List D)) (P:Nat→Obj→Prop) (J:Shared→List (List Addr)→Prop):Prop where
 next:∀ {i:Nat} {o:Obj} {s:Shared} {σ:Loc} {μ:Mem} {ρ:List (List Addr)} {m:Str→Option Value} {ds:List D} {Q:Option Value→Shared→Prop} {E:Value→Shared→Prop},Stt κ (c.pin I o) s σ ρ μ m→J s ρ→P i o→its μ=some ds→
  (match ds[i]? with
   | some d=>∀ v h' tk o',Rd κ.w (Im s.heap ρ (c.pin I o).fr) d v→h'.get? I=some o'→P (i+1) o'→(∀ b ob,b≠I→s.heap.get? b=some ob→h'.get? b=some ob)→Q (some v) { s with heap:=h',toks:=tk }
   | none=>∀ h' tk,(∀ b ob,b≠I→s.heap.get? b=some ob→h'.get? b=some ob)→Q none { s with heap:=h',toks:=tk })→wpAny (model pg κ.w) c.A (pyNext (.ref I)) Q E s
 keep:∀ {o:Obj} {s s':Shared} {ρ ρ':List (List Addr)},J s ρ→zaG (c.pin I o) ρ s s'→zbj s ρ ρ'→J s' ρ'
theorem zli {κ:KK} {n:Nat} {c:Cx} (ok:zbx n c) {I:Addr} {its:Mem→Option (List D)} {P:Nat→Obj→Prop} {J:Shared→List (List Addr)→Prop} (W:Src κ c I its P J) {t:Expr} {body:List Stmt} {B:V→Loc→Option Loc} {G:CF}
  (ht:Tg κ n c.sc t B) (hb:CE κ n c.sc body G) (hgo:∀ (i:Nat) (o:Obj) (s:Shared) (v:Value) (Q:Unit→Shared→Prop) (E:Value→Shared→Prop),P i o→s.heap.get? I=some o→Q () s→wpAny (model pg κ.w) c.A (letOwnedTupleGo t (.ref I) v) Q E s)
  {fuel:Nat} {o:Obj} {s₀ s:Shared} {σ:Loc} {μ:Mem} {ρ₀ ρ:List (List Addr)} {m:Str→Option Value} {Q:Flow→Shared→Prop} {E:Value→Shared→Prop} (S:Stt κ (c.pin I o) s σ ρ μ m) (hJ:J s ρ) (hP:P 0 o)
  (l:zaG c ρ₀ s₀ s) (g:zbj s₀ ρ₀ ρ) (hn0:c.nb≤ρ₀.length) (hI:s₀.heap.get? I=none) (H:za6 κ c s₀ ρ₀ E (zc6 its B G fuel 0 σ μ) (zes κ c s₀ ρ₀ Q)) :
  codeAny (model pg κ.w) c.A (.forLoop t (.ref I) body [] c.env) (fun r s'=>match r with | .ok f=>Q f s' | .error e=>cameBackBy (model pg κ.w) c.A c.env E e s') s:=by
 refine codeAny_forLoop_any (fun k s=>∃ i o σ μ ρ m,Stt κ (c.pin I o) s σ ρ μ m∧J s ρ∧P i o∧zaG c ρ₀ s₀ s∧zbj s₀ ρ₀ ρ∧za6 κ c s₀ ρ₀ E (zc6 its B G k i σ μ) (zes κ c s₀ ρ₀ Q)) ?_ fuel ⟨0,o,σ,μ,ρ,m,S,hJ,hP,l,g,H⟩
 clear H S hJ hP l g
 rintro k s ⟨i,o,σ,μ,ρ,m,S,hJ,hP,l,g,H⟩
 cases k with
 | zero=>exact H.elim
 | succ k=>
  unfold zc6 at H
  split at H
  ·exact H.elim
  rename_i ds hds
  refine W.next S hJ hP hds ?_
  split at H
  ·rename_i hd
   rw [hd]
   intro h' tk hk'
   exact wpAny_execs_nil (H _ ρ m (S.lose (s':={ s with heap:=h',toks:=tk }) hk') (l.lose g hI S.unpin.inv hk') g)
  rename_i d hd
  rw [hd]
  intro v h' tk o' rd ho' hP' hk'
  obtain ⟨S',l'⟩:=S.repin (s':={ s with heap:=h',toks:=tk }) hk' ho'
  have hJ':=W.keep hJ l' .refl
  refine hgo _ _ _ _ _ _ hP' ho' ?_
  split at H
  ·exact H.elim
  rename_i σ' hB
  have rd':RV κ.w (Im h' ρ (c.pin I o').fr) ρ (.d d) v:=.d (rd.mono (l'.im (.refl (s:=s))))
  refine ht.run (c.pin I o') rfl (ok.pin I o') σ μ ρ m _ _ _ _ _ S' rd' σ' hB fun s2 m2 S2 l2=>?_
  have l02:=(l.ofPin g hI l').ofPin g hI l2
  have hJ2:=W.keep hJ' l2 .refl
  refine hb.run (c.pin I o') rfl (ok.pin I o') σ' μ ρ m2 s2 _ (zn1 κ c E) S2 ?_
  cases q:G σ' μ with
  | stuck=>rw [q] at H;exact H.elim
  | exc x μ'=>
   rw [q] at H
   intro s3 ρ3 m3 a fp S3 l3 g3 hn
   exact zlh ok H s3 ρ3 m3 a fp S3.unpin (l02.ofPin g hI l3) ((g.grow hn0).trans g3.ofPin l02.1) hn
  | ok f μ'=>
   rw [q] at H
   cases f with
   | next σ''=>
    intro s3 ρ3 m3 S3 l3 g3
    refine ⟨k,Nat.lt_succ_self k,i+1,o',σ'',μ',ρ3,m3,S3,W.keep hJ2 l3 g3,hP',l02.ofPin g hI l3,g.trans g3 l02.1,H⟩
   | ret w=>
    intro s3 ρ3 m3 val S3 l3 g3 r
    refine H s3 ρ3 m3 val S3.unpin (l02.ofPin g hI l3) (g.trans g3 l02.1) (r.mono (fun a ob ⟨x,y,z⟩=>⟨x,y,fun q=>z ?_⟩) fun x_ x_ e=>e)
    have q':a=c.L∨a∈c.rest.map (·.L):=by simpa [Cx.fr] using q
    have:a=c.L∨a=I∨a∈c.rest.map (·.L):=q'.imp id .inr
    simpa [Cx.fr,Cx.pin] using this
noncomputable def zcP (v:V) (μ:Mem):Option (List D):=match res μ v with
 | some (.lst ds)=>some ds
 | _=>none
theorem zjq {v:V} {μ:Mem} {ds:List D} (h:zcP v μ=some ds):res μ v=some (.lst ds):=by
 unfold zcP at h;split at h
 ·cases h;assumption
 ·cases h
set_option tactic.hygienic true in
theorem zt7 {κ:KK} {n:Nat} {c:Cx} (ok:zbx n c) {I a:Addr} {v:V}:Src κ c I (zcP v) (fun i o=>o.cls = .type "list_iterator"∧o.data = .fields #[.ref a,.int i 0]) (fun s ρ=>RV κ.w (Im s.heap ρ (c.L :: I :: c.rest.map (·.L))) ρ v (.ref a)) where
 next:=by
  intro i o s σ μ ρ m ds Q E S hJ hP hd hQ
  have hJ':RV κ.w (Im s.heap ρ (c.pin I o).fr) ρ v (.ref a):=hJ
  obtain ⟨a',vs,n',e,hl,hvs⟩:=(hJ'.view S (zjq hd)).lst_inv fun a o h=>h.1
  cases e
  have hit:s.heap.IsListIter I a i:=⟨o,S.pinned,hP.1,hP.2⟩
  split at hQ
  ·rename_i d hdi
   obtain ⟨x,hx,rx⟩:=hvs.get hdi
   refine wpAny_pyNext_list_item hit hl.isList (x:=x) (by simpa using hx) fun h' hit' hs'=>?_
   obtain ⟨o',ho',r1,r2⟩:=hit'
   exact hQ x h' s.toks o' rx ho' ⟨r1,r2⟩ fun b ob hb e=>hs'.extBut b ob hb e
  ·rename_i hdi
   have hlen:=hvs.length
   refine wpAny_pyNext_list_end ok.handled hit hl.isList (by simp;rw [List.getElem?_eq_none_iff] at hdi;lia) fun h' he'=>?_
   exact hQ h' s.toks fun b ob hb e=>he' b ob hb e
 keep:=by
  intro o s s' ρ ρ' hJ l g
  exact hJ.mono (l.im g) g.get
set_option tactic.hygienic true in
theorem zss {κ:KK} {n:Nat} {c:Cx} (ok:zbx n c) {I:Addr} {x:List Nat} {t:Tok}:Src κ c I (fun x_=>some (x.map fun y=>.str [y])) (fun i o=>o.cls = .type "str_ascii_iterator"∧o.data = .fields #[.str (Mine.Internal.str x) t,.int i 0]) (fun x_ x_=>True) where
 next:=by
  intro i o s σ μ ρ m ds Q E S _ hP hd hQ
  cases hd
  have hit:s.heap.IsStrIter I "str_ascii_iterator" (Mine.Internal.str x) t i:=⟨o,S.pinned,hP.1,hP.2⟩
  split at hQ
  ·rename_i d hdi
   rw [List.getElem?_map] at hdi
   obtain ⟨y,hy,rfl⟩:=Option.map_eq_some_iff.mp hdi
   refine wpAny_pyNext_ascii_item hit (c:=y) (by simpa [Mine.Internal.str] using hy) fun h' hit' hs'=>?_
   obtain ⟨o',ho',r1,r2⟩:=hit'
   exact hQ _ h' (s.toks+1) o' (.str [y] _) ho' ⟨r1,r2⟩ fun b ob hb e=>hs'.extBut b ob hb e
  ·rename_i hdi
   refine wpAny_pyNext_ascii_end ok.handled hit (by simpa [Mine.Internal.str] using hdi) fun h' he'=>?_
   exact hQ h' s.toks fun b ob hb e=>he' b ob hb e
 keep:=fun x_ x_ x_=>trivial
set_option tactic.hygienic true in
theorem zst {κ:KK} {n:Nat} {c:Cx} (ok:zbx n c) {I:Addr} {k:Nat}:Src κ c I (fun x_=>some ((List.range k).map fun i=>.int (i:Nat))) (fun i o=>o={ cls:=.type "range_iterator",dict:=none,data:=.fields #[rawInt (i:Nat),rawInt ((k:Int) - (i:Nat)),rawInt 1],slots:=#[] }) (fun x_ x_=>True) where
 next:=by
  intro i o s σ μ ρ m ds Q E S _ hP hd hQ
  cases hd
  have hit:IsRangeIter s.heap I (i:Nat) ((k:Int) - (i:Nat)) 1:=by have:=S.pinned;rw [hP] at this;exact this
  split at hQ
  ·rename_i d hdi
   rw [List.getElem?_map] at hdi
   obtain ⟨y,hy,rfl⟩:=Option.map_eq_some_iff.mp hdi
   obtain ⟨hlt,rfl⟩:=List.getElem?_eq_some_iff.mp hy
   rw [List.length_range] at hlt
   refine wpAny_pyNext_range_item hit (by lia) fun h' hit' hs'=>?_
   refine hQ _ h' (s.toks+1) _ ?_ hit' ?_ fun b ob hb e=>hs'.extBut b ob hb e
   ·rw [List.getElem_range];exact .int _ _
   ·show _=_
    have e1:((i:Nat):Int)+1=((i+1:Nat):Int):=by push_cast;rfl
    have e2:(k:Int) - (i:Nat) - 1=(k:Int) - ((i+1:Nat):Int):=by push_cast;lia
    rw [e1,e2]
  ·rename_i hdi
   have hle:k≤i:=by simpa using hdi
   refine wpAny_pyNext_range_end ok.handled hit (by lia) fun h' he'=>?_
   exact hQ h' s.toks fun b ob hb e=>he' b ob hb e
 keep:=fun x_ x_ x_=>trivial
noncomputable def zrh (t:Expr):Prop:=∀ (w:World) (A:Around) (I:Addr) (o:Obj) (s:Shared) (v:Value) (Q:Unit→Shared→Prop) (E:Value→Shared→Prop),o.cls = .type "list_iterator"→s.heap.get? I=some o→Q () s→wpAny (model pg w) A (letOwnedTupleGo t (.ref I) v) Q E s
theorem zv1 {x:Str} {pos:Pos}:zrh (.Name x pos):=fun w A I o s v Q E x_ x_ h=>wpAny_pure h
theorem zt8 {es:List Expr} {k} {pos:Pos}:zrh (.Tuple es k pos):=by
 intro w A I o s v Q E hc ho h
 obtain ⟨cls,dct,data,sl⟩:=o
 simp only at hc
 subst hc
 unfold letOwnedTupleGo
 cases v with
 | ref a=>
  refine wpAny_bind (wpAny_load ho ?_)
  cases data with
  | fields vs=>
   show wpAny _ _ (if _ then _ else _) _ _ _
   rw [if_neg (by simp)]
   exact wpAny_pure h
  | _=>exact wpAny_pure h
 | _=>exact wpAny_pure h
noncomputable def zhc (F:EF) (B:V→Loc→Option Loc) (G:CF):CF:=fun σ μ=>(F σ μ).bind fun v μ=>match zcP v μ with
 | some ds=>zc6 (zcP v) B G (ds.length+1) 0 σ μ
 | none=>.stuck
set_option tactic.hygienic true in
theorem zpY {κ:KK} {n:Nat} {sc:Scope} {t iter:Expr} {body:List Stmt} {pos:Pos} {F:EF} {B:V→Loc→Option Loc} {G:CF} (hf:∀ env x,foldedSetIterable iter env x=pure x) (hgo:zrh t) (h:SE κ n sc iter F) (ht:Tg κ n sc t B) (hb:CE κ n sc body G) :
  CS κ n sc (.For t iter body [] pos) (zhc F B G):=by
 refine ⟨?_⟩
 rintro c rfl ok σ μ ρ m s Q E S P
 refine wpAny_For (h.go rfl ok S P fun v μ1 s1 ρ1 val S1 r1 l1 g1 P1=>?_) (hf _)
 split at P1
 rotate_left
 ·exact P1.elim
 rename_i ds hd
 obtain ⟨a,vs,n',rfl,hl,hvs⟩:=(r1.view S1 (zjq hd)).lst_inv fun a o h=>h.1
 refine wpAny_pyIter_list hl.isList ?_
 obtain ⟨S2,l2,i2⟩:=S1.pin (s':={ s1 with heap:=s1.heap.push { cls:=.type "list_iterator",data:=.fields #[.ref a,.int 0 0] } }) (I:=s1.heap.objs.size) (fun x_ x_ e=>Heap.get?_push_of_some _ e) rfl (Heap.get?_push_size _ rfl)
 exact zli ok (zt7 ok) ht hb (fun i o s v Q E hP ho q=>hgo _ _ _ o s v Q E hP.1 ho q) S2 (r1.mono i2 fun x_ x_ e=>e) ⟨rfl,rfl⟩ l2 .refl S1.nbρ (zbu (Nat.le_refl _)) P1
noncomputable def zlM (F:EF) (B:V→Loc→Option Loc) (G:CF):CF:=fun σ μ=>(F σ μ).bind fun v μ=>match v with
 | .d (.str x)=>if x.all (· < 128) then zc6 (fun x_=>some (x.map fun y=>.str [y])) B G (x.length+1) 0 σ μ else .stuck
 | _=>.stuck
set_option tactic.hygienic true in
theorem zri {κ:KK} {n:Nat} {sc:Scope} {t iter:Expr} {body:List Stmt} {pos:Pos} {F:EF} {B:V→Loc→Option Loc} {G:CF} (hf:∀ env x,foldedSetIterable iter env x=pure x) (hgo:∀ it v,letOwnedTupleGo t it v=pure ()) (h:SE κ n sc iter F) (ht:Tg κ n sc t B) (hb:CE κ n sc body G) :
  CS κ n sc (.For t iter body [] pos) (zlM F B G):=by
 refine ⟨?_⟩
 rintro c rfl ok σ μ ρ m s Q E S P
 refine wpAny_For (h.go rfl ok S P fun v μ1 s1 ρ1 val S1 r1 l1 g1 P1=>?_) (hf _)
 split at P1
 rotate_left
 ·exact P1.elim
 rename_i x
 split at P1
 rotate_left
 ·exact P1.elim
 rename_i ha
 obtain ⟨tk,rfl⟩:=r1.d_inv.str_inv
 refine wpAny_pyIter_ascii (by simpa [Mine.Internal.str] using ha) ?_
 obtain ⟨S2,l2,i2⟩:=S1.pin (s':={ s1 with heap:=s1.heap.push { cls:=.type "str_ascii_iterator",data:=.fields #[.str (Mine.Internal.str x) tk,.int 0 0] } }) (I:=s1.heap.objs.size) (fun x_ x_ e=>Heap.get?_push_of_some _ e) rfl (Heap.get?_push_size _ rfl)
 exact zli ok (zss ok) ht hb (fun i o s v Q E hP ho q=>by rw [hgo];exact wpAny_pure q) S2 trivial ⟨rfl,rfl⟩ l2 .refl S1.nbρ (zbu (Nat.le_refl _)) P1
theorem zpZ {k:Int} (h:k≤1000000∧-1000000≤k):Builtin.Range.small 0 k 1=true:=by
 unfold Builtin.Range.small
 have hsz:Builtin.Range.rangeSize 0 k 1=(k.toNat:Int):=by rw [rangeSize_one];split <;> lia
 rw [hsz]
 simp [Builtin.Range.rangeFitsLong]
 lia
noncomputable def zex (F:EF) (B:V→Loc→Option Loc) (G:CF):CF:=fun σ μ=>(F σ μ).bind fun v μ=>match v with
 | .d (.int k)=>if k≤1000000∧-1000000≤k then zc6 (fun x_=>some ((List.range k.toNat).map fun i=>.int (i:Nat))) B G (k.toNat+1) 0 σ μ else .stuck
 | _=>.stuck
set_option tactic.hygienic true in
theorem zoq {κ:KK} (W:WF κ) {n:Nat} {sc:Scope} {t e:Expr} {p pos cpos:Pos} {body:List Stmt} {F:EF} {B:V→Loc→Option Loc} {G:CF} (hf:∀ env x,foldedSetIterable (.Call (.Name (Str.ofString "range") p) [e] [] cpos) env x=pure x) (hgo:∀ it v,letOwnedTupleGo t it v=pure ())
  (hk:sc.names.lookup (Str.ofString "range")=some .globalImplicit) (he:∀ rest env,starEach (e :: rest) env=(false,eval e env) :: starEach rest env) (h:SE κ n sc e F) (ht:Tg κ n sc t B) (hb:CE κ n sc body G) :
  CS κ n sc (.For t (.Call (.Name (Str.ofString "range") p) [e] [] cpos) body [] pos) (zex F B G):=by
 refine ⟨?_⟩
 rintro c rfl ok σ μ ρ m s Q E S P
 refine wpAny_For ?_ (hf _)
 refine wpAny_Call_ofName (zok W (x:="range") (by decide) rfl hk (by decide) rfl ok S (ziK (.inr ⟨_,rfl⟩) ?_ (he _ _) rfl))
 refine wpAny_items_cons (h.go rfl ok S P fun v μ1 s1 ρ1 val S1 r1 l1 g1 P1=>wpAny_items_nil ?_) (he _ _)
 split at P1
 rotate_left
 ·exact P1.elim
 rename_i k
 split at P1
 rotate_left
 ·exact P1.elim
 rename_i ha
 obtain ⟨tk,rfl⟩:=r1.d_inv.int_inv
 refine call_range_1 ?_
 obtain ⟨S2,l2⟩:=S1.keeps (s':={ s1 with heap:=s1.heap.push { cls:=.type "range",data:=.fields #[.int 0 s1.toks,.int k tk,.int 1 (s1.toks+1)] },toks:=s1.toks+1+1 }) (fun x_ x_ e=>Heap.get?_push_of_some _ e)
 have hsz:Builtin.Range.rangeSize 0 k 1=(k.toNat:Int):=by rw [rangeSize_one];split <;> lia
 refine wpAny_pyIter_range (IsRange.new _ _ _ _ _ _ _) (zpZ ha) ?_
 rw [hsz]
 obtain ⟨S3,l3,i3⟩:=S2.pin (s':={ s1 with heap:=(s1.heap.push { cls:=.type "range",data:=.fields #[.int 0 s1.toks,.int k tk,.int 1 (s1.toks+1)] }).push { cls:=.type "range_iterator",data:=.fields #[rawInt 0,rawInt (k.toNat:Int),rawInt 1] },toks:=s1.toks+1+1 }) (I:=(s1.heap.push { cls:=.type "range",data:=.fields #[.int 0 s1.toks,.int k tk,.int 1 (s1.toks+1)] }).objs.size) (fun x_ x_ e=>Heap.get?_push_of_some _ e) rfl (Heap.get?_push_size _ rfl)
 have P2:=PostC.later l2 (.refl (s:=s1)) S1.nbρ P1
 exact zli ok (zst ok) ht hb (fun i o s v Q E hP ho q=>by rw [hgo];exact wpAny_pure q) S3 trivial (by simp) l3 .refl S1.nbρ (zbu (Nat.le_refl _)) P2
noncomputable def zc3 (T:TF) (G:CF):Nat→CF
 | 0=>fun x_ x_=>.stuck
 | k+1=>fun σ μ=>(T σ μ).bind fun b μ=>if b then (G σ μ).bind fun f μ'=>match f with
   | .next σ'=>zc3 T G k σ' μ'
   | .ret v=>.ok (.ret v) μ'
  else .ok (.next σ) μ
theorem zt9 {κ:KK} {n:Nat} {sc:Scope} {t:Expr} {body:List Stmt} {pos:Pos} {T:TF} {G:CF} (h:ST κ n sc t T) (hb:CE κ n sc body G) (fuel:Nat):CS κ n sc (.While t body [] pos) (zc3 T G fuel):=by
 refine ⟨?_⟩
 rintro c rfl ok σ₀ μ₀ ρ₀ m₀ s₀ Q E S₀ P₀
 refine wpAny_While (codeAny_whileLoop (fun k s=>∃ σ μ ρ m,Stt κ c s σ ρ μ m∧zaG c ρ₀ s₀ s∧zbj s₀ ρ₀ ρ∧za6 κ c s₀ ρ₀ E (zc3 T G k σ μ) (zes κ c s₀ ρ₀ Q)) ?_ fuel ⟨σ₀,μ₀,ρ₀,m₀,S₀,.refl,.refl,P₀⟩)
 rintro k s ⟨σ,μ,ρ,m,S,l,g,P⟩
 cases k with
 | zero=>exact P.elim
 | succ k=>
  unfold zc3 at P
  have P1:=PostC.later l g S₀.nbρ P
  refine h.run c rfl ok σ μ ρ m s _ (zn1 κ c E) S ?_
  cases q:T σ μ with
  | stuck=>rw [q] at P1;exact P1.elim
  | exc x μ'=>rw [q] at P1;exact zlh ok P1
  | ok b μ1=>
   rw [q] at P
   intro s1 ρ1 S1 l1 g1
   have l01:=l.trans g l1
   have g01:=g.trans g1 l.1
   cases b with
   | false=>
    rw [if_neg (by decide)]
    exact wpAny_execs_nil (P s1 ρ1 m S1 l01 g01)
   | true=>
    rw [if_pos rfl]
    replace P:za6 κ c s₀ ρ₀ E ((G σ μ1).bind fun f μ'=>match f with | .next σ'=>zc3 T G k σ' μ' | .ret v=>.ok (.ret v) μ') (zes κ c s₀ ρ₀ Q):=P
    refine hb.run c rfl ok σ μ1 ρ1 m s1 _ (zn1 κ c E) S1 ?_
    cases q2:G σ μ1 with
    | stuck=>rw [q2] at P;exact P.elim
    | exc x μ'=>
     rw [q2] at P
     exact zlh ok (PostC.later (r:=.exc x μ') (Q:=Q) l01 g01 S₀.nbρ P)
    | ok f μ2=>
     rw [q2] at P
     cases f with
     | next σ'=>exact fun s2 ρ2 m2 S2 l2 g2=>⟨k,Nat.lt_succ_self k,σ',μ2,ρ2,m2,S2,l01.trans g01 l2,g01.trans g2 l01.1,P⟩
     | ret v=>exact fun s2 ρ2 m2 val S2 l2 g2 r=>P s2 ρ2 m2 val S2 (l01.trans g01 l2) (g01.trans g2 l01.1) r
noncomputable def zhr (i:Nat) (F:EF):CF:=fun σ μ=>((σ[i]?).join.bind V.gI).elim .stuck fun a=>(F σ μ).bind fun v μ=>v.gI.elim .stuck fun b=>.ok (.next (σ.set i (some (.d (.int (a+b)))))) μ
theorem zxD {κ:KK} {n:Nat} {sc:Scope} {x:Str} {p pos:Pos} {e:Expr} {i:Nat} {F:EF} (hi:sc.names[i]? = some (x,NameKind.local)) (h:SE κ n sc e F):CS κ n sc (.AugAssign (.Name x p) .Add e pos) (zhr i F):=by
 refine ⟨?_⟩
 rintro c rfl ok σ μ ρ m s Q E S P
 obtain ⟨a,hv,P⟩:=zbr (o:=(σ[i]?).join.bind V.gI) P
 replace hv:=zzJ hv
 obtain ⟨val,hm,r⟩:=S.loc.local hi hv
 refine wpAny_AugAssign_Name (ztP S.fr hm (h.go rfl ok S P fun v μ' s' ρ' val' S' r' l' g' P'=>?_) ok.kind (zfQ (zbq ok.names hi)))
 obtain ⟨b,hb,P'⟩:=zbr P'
 cases V.gI_s hb
 obtain ⟨t,rfl⟩:=r.d_inv.int_inv
 obtain ⟨u,rfl⟩:=r'.d_inv.int_inv
 refine PyProof.Rows.iadd_int ?_
 obtain ⟨S2,l2⟩:=S'.keeps (s':={ s' with toks:=s'.toks+1 }) fun x_ x_ e=>e
 exact S2.store ok hi (.d (.int _ _)) fun s'' m'' S'' l''=>P' s'' ρ' m'' S'' (l2.trans .refl l'') .refl
theorem zua {w:World} {A:Around} {E:Value→Shared→Prop} {s:Shared} {a b:Addr} {vs ws:Array Value} {n n2:Nat} {Q:Value→Shared→Prop} (ha:IsL s.heap a vs n) (hb:IsL s.heap b ws n2) (hz:vs.size+ws.size≤16000000)
  (h:Q (.ref a) { s with heap:=s.heap.update a (Obj.mapSeq fun x=>x ++ ws) }):wpAny (model pg w) A (inplaceOp .Add (.ref a) (.ref b)) Q E s:=by
 have hT:s.TypeIs (.ref a) "list":=⟨_,ha,rfl⟩
 have hlk:typeLookup (.type "list") (dunderI "add")=pure (some (.builtin "list.__iadd__")):=PySem.F.slot_list_iadd.lookup
 have hsq:isSeqSlot (some (.builtin "list.__iadd__"))=true:=by decide +kernel
 unfold inplaceOp
 refine wpAny_holding ?_
 have hfi:fillsInplaceSlot (.type "list") "add" (Operator.Add == .Add)=pure false:=by
  unfold fillsInplaceSlot
  show (typeLookup (.type "list") (dunderI "add") >>= fun fi=>pure (fi.isSome && !isSeqSlot fi))=pure false
  rw [hlk,pure_bind,hsq];rfl
 have hsi:seqSlot? (.type "list") (dunderI "add")=pure (some (.builtin "list.__iadd__")):=by
  unfold seqSlot?
  rw [hlk,pure_bind,hsq];rfl
 refine wpAny_bind (wpAny_typeOf hT (wpAny_bind (wpAny_of_eq hfi ?_)))
 show wpAny _ A (if false=true then _ else _) Q E s
 rw [if_neg Bool.false_ne_true]
 refine wpAny_bind (PyProof.Rows.binaryOp1_none (nm:="add") hT ⟨_,hb,rfl⟩ noFill_list_add ?_)
 refine wpAny_bind (wpAny_of_eq hsi ?_)
 refine wpAny_bind (wpAny_rule ?_)
 have hlong:¬(!vs.isEmpty && Builtin.List.listTooLong (vs.size+ws.size))=true:=by
  have:Builtin.List.listTooLong (vs.size+ws.size)=false:=by
   unfold Builtin.List.listTooLong
   rw [za7]
   simp
   lia
  rw [this,Bool.and_false];decide
 exact (call_meets PySem.F.slot_list_iadd hT PySem.F.entry_list_iadd (PySem.F.args_list_iadd_2 _ _) (AutoSeq1.list___iadd___list_list_0 a vs n b ws n2 hlong (by rw [za7];lia) (by rw [za7];lia)) ⟨ha,hb,h⟩)
noncomputable def zlN (i:Nat) (F:EF):CF:=fun σ μ=>((σ[i]?).join.bind V.gR).elim .stuck fun k=>(F σ μ).bind fun v μ=>(atL μ k).elim .stuck fun ds=>(v.gD.bind D.gL).elim .stuck fun es=>if ds.length+es.length≤10000000 then .ok (.next (σ.set i (some (.ref k)))) (μ.set k (.list (ds ++ es))) else .stuck
theorem zv2 {κ:KK} {n:Nat} {sc:Scope} {x:Str} {p pos:Pos} {e:Expr} {i:Nat} {F:EF} (hi:sc.names[i]? = some (x,NameKind.local)) (h:SE κ n sc e F):CS κ n sc (.AugAssign (.Name x p) .Add e pos) (zlN i F):=by
 refine ⟨?_⟩
 rintro c rfl ok σ μ ρ m s Q E S P
 obtain ⟨k,hv,P⟩:=zbr (o:=(σ[i]?).join.bind V.gR) P
 replace hv:=zzK hv
 obtain ⟨val,hm,r⟩:=S.loc.local hi hv
 refine wpAny_AugAssign_Name (ztP S.fr hm (h.next rfl ok S .refl .refl S.nbρ P fun v μ' s' ρ' val' S' l' g' i' k' r' P'=>?_) ok.kind (zfQ (zbq ok.names hi)))
 replace P':=PostC.later l' g' S.nbρ P'
 obtain ⟨ds,hk,P'⟩:=zbr P'
 replace hk:=znV hk
 obtain ⟨es,he,P'⟩:=zbr P'
 cases vL he
 obtain ⟨hsz,P'⟩:=zgk P'
 obtain ⟨a,vs,n',rfl,hk1,hl,hvs⟩:=zke S' (r.mono i' k') hk
 obtain ⟨b,ws,n'',rfl,hb,hws⟩:=(RV.view S' r' rfl).lst_inv fun a o h=>h.1
 have e1:=hvs.length
 have e2:=hws.length
 refine zua hl hb (by simp;lia) ?_
 obtain ⟨S2,l2⟩:=ziM S' hk1 hl (f:=fun x=>x ++ ws.toArray) (ds':=ds ++ es) (u:=s'.toks) (by simp only [Array.toList_append];exact hvs.append hws)
 exact S2.store ok hi (.ref (l:=[]) hk1) fun s'' m'' S'' l''=>P' s'' ρ' m'' S'' (l2.trans .refl l'') .refl
noncomputable def zfW (kvs:List (Int×D)) (k:Int) (d:D):List (Int×D):=if kvs.any (fun p=>p.1=k) then kvs.map (fun p=>if p.1=k then (p.1,d) else p) else kvs ++ [(k,d)]
noncomputable def zfc (kvs:List (List Nat×D)) (k:List Nat) (d:D):List (List Nat×D):=if kvs.any (fun p=>p.1=k) then kvs.map (fun p=>if p.1=k then (p.1,d) else p) else kvs ++ [(k,d)]
theorem zne {w:World} {I:SI} (k:Int) {d:D} {v:Value} (rd:Rd w I d v):∀ {kvs:List (Int×D)} {kws:List (Int×Value)},kws.map (·.1)=kvs.map (·.1)→zaC w I (kvs.map (·.2)) (kws.map (·.2))→
  (kws.any fun p=>p.1=k)=(kvs.any fun p=>p.1=k)∧(kws.map fun p=>if p.1=k then (p.1,v) else p).map (·.1)=(kvs.map fun p=>if p.1=k then (p.1,d) else p).map (·.1)∧zaC w I ((kvs.map fun p=>if p.1=k then (p.1,d) else p).map (·.2)) ((kws.map fun p=>if p.1=k then (p.1,v) else p).map (·.2))
 | [],[],_,_=>⟨rfl,rfl,.nil⟩
 | [],_ :: _,h,_=>by simp at h
 | _ :: _,[],h,_=>by simp at h
 | (a,x) :: kvs,(b,y) :: kws,h,r=>by
  simp only [List.map_cons,List.cons.injEq] at h r
  cases r with
  | cons r1 r2=>
  obtain ⟨h1,h2,h3⟩:=zne k rd h.2 r2
  obtain ⟨rfl,h⟩:=h
  refine ⟨by simp only [List.any_cons,h1],?_,?_⟩
  ·simp only [List.map_cons,List.cons.injEq]
   exact ⟨by split <;> rfl,h2⟩
  ·simp only [List.map_cons]
   refine .cons ?_ h3
   by_cases q:b=k
   ·simp only [q,if_true];exact rd
   ·simp only [q,if_false];exact r1
theorem zor {a b:List Nat}:(Mine.Internal.str a=Mine.Internal.str b)=(a=b):=propext ⟨fun h=>by have:=congrArg (fun z:Str=>z.cps.toList) h;simpa [Mine.Internal.str] using this,fun h=>by rw [h]⟩
theorem znf {w:World} {I:SI} (k:List Nat) {d:D} {v:Value} (rd:Rd w I d v):∀ {kvs:List (List Nat×D)} {kws:List (Str×Value)},kws.map (·.1)=kvs.map (fun p=>Mine.Internal.str p.1)→zaC w I (kvs.map (·.2)) (kws.map (·.2))→
  (kws.any fun p=>p.1=Mine.Internal.str k)=(kvs.any fun p=>p.1=k)∧(kws.map fun p=>if p.1=Mine.Internal.str k then (p.1,v) else p).map (·.1)=(kvs.map fun p=>if p.1=k then (p.1,d) else p).map (fun p=>Mine.Internal.str p.1)∧zaC w I ((kvs.map fun p=>if p.1=k then (p.1,d) else p).map (·.2)) ((kws.map fun p=>if p.1=Mine.Internal.str k then (p.1,v) else p).map (·.2))
 | [],[],_,_=>⟨rfl,rfl,.nil⟩
 | [],_ :: _,h,_=>by simp at h
 | _ :: _,[],h,_=>by simp at h
 | (a,x) :: kvs,(b,y) :: kws,h,r=>by
  simp only [List.map_cons,List.cons.injEq] at h r
  cases r with
  | cons r1 r2=>
  obtain ⟨h1,h2,h3⟩:=znf k rd h.2 r2
  obtain ⟨rfl,h⟩:=h
  refine ⟨by simp only [List.any_cons,h1,zor],?_,?_⟩
  ·simp only [List.map_cons,List.cons.injEq]
   refine ⟨?_,h2⟩
   by_cases q:a=k <;> simp [q,zor]
  ·simp only [List.map_cons]
   refine .cons ?_ h3
   by_cases q:a=k
   ·simp only [q,if_true];exact rd
   ·simp only [q,zor,if_false];exact r1
noncomputable def onA {α:Type} (q:Option MO) (f:List (Int×D)→Option α):Option α:=match q with
 | some (.dcI x)=>f x
 | _=>none
noncomputable def onB {α:Type} (q:Option MO) (f:List (List Nat×D)→Option α):Option α:=match q with
 | some (.dcS x)=>f x
 | _=>none
theorem zub {α:Type} {q:Option MO} {f:List (Int×D)→Option α} {z:α} (h:onA q f=some z):∃ x,q=some (.dcI x)∧f x=some z:=by
 cases q with
 | none=>exact zbe h
 | some o=>cases o with
  | dcI x=>exact ⟨x,rfl,h⟩
  | _=>exact zbe h
theorem zuc {α:Type} {q:Option MO} {f:List (List Nat×D)→Option α} {z:α} (h:onB q f=some z):∃ x,q=some (.dcS x)∧f x=some z:=by
 cases q with
 | none=>exact zbe h
 | some o=>cases o with
  | dcS x=>exact ⟨x,rfl,h⟩
  | _=>exact zbe h
noncomputable def V.onR {α:Type} (v:V) (f:Nat→Option α):Option α:=match v with
 | .ref k=>f k
 | _=>none
noncomputable def V.onD {α:Type} (v:V) (f:D→Option α):Option α:=match v with
 | .d x=>f x
 | _=>none
theorem V.onR_some {α:Type} {v:V} {f:Nat→Option α} {z:α} (h:v.onR f=some z):∃ x,v = .ref x∧f x=some z:=match v,h with
 | .ref x,h=>⟨x,rfl,h⟩
theorem V.onD_some {α:Type} {v:V} {f:D→Option α} {z:α} (h:v.onD f=some z):∃ x,v = .d x∧f x=some z:=match v,h with
 | .d x,h=>⟨x,rfl,h⟩
noncomputable def zkf (v o i:V) (μ:Mem):Option Mem:=o.onR fun k=>i.onD fun x=>v.onD fun d=>
 x.ifI (fun a=>onA (μ[k]?) fun kvs=>if kvs.length≤1000 then some (μ.set k (.dcI (zfW kvs a d))) else none) <|
 x.ifS (fun a=>onB (μ[k]?) fun kvs=>if kvs.length≤1000 then some (μ.set k (.dcS (zfc kvs a d))) else none) none
theorem zsu {μ:Mem} {k:Nat} {kvs:List (Int×D)} {a:Int} {d:D} (h:μ[k]? = some (.dcI kvs)) (hl:kvs.length≤1000):zkf (.d d) (.ref k) (.d (.int a)) μ=some (μ.set k (.dcI (zfW kvs a d))):=by
 show onA (μ[k]?) _=_
 rw [h];exact if_pos hl
theorem zng {μ:Mem} {k:Nat} {kvs:List (List Nat×D)} {a:List Nat} {d:D} (h:μ[k]? = some (.dcS kvs)) (hl:kvs.length≤1000):zkf (.d d) (.ref k) (.d (.str a)) μ=some (μ.set k (.dcS (zfc kvs a d))):=by
 show onB (μ[k]?) _=_
 rw [h];exact if_pos hl
noncomputable def zeH (F O I:EF):CF:=fun σ μ=>(F σ μ).bind fun v μ=>(O σ μ).bind fun o μ=>(I σ μ).bind fun i μ=>match zkf v o i μ with
 | some μ'=>.ok (.next σ) μ'
 | none=>.stuck
theorem zos {K:Type} [DecidableEq K] {w:World} {knd:KeyKind pg w K} {h:Heap} {a:Addr} {o:Obj} {kws:List (K×Value)} (g:h.get? a=some o) (x:ze5 knd o kws):h.DictOf knd a kws:=by
 obtain ⟨o1,⟨es,ep,q1,q2,q3⟩,o3⟩:=x
 exact ⟨_,es,ep,g,o1,q1,q2,q3,o3⟩
theorem zot {K:Type} [DecidableEq K] {w:World} {knd:KeyKind pg w K} {h:Heap} {a:Addr} {kws:List (K×Value)} (x:h.DictOf knd a kws):∃ o,h.get? a=some o∧ze5 knd o kws:=by
 obtain ⟨o,es,ep,h1,h2,h3,h4,h5,h6⟩:=x
 exact ⟨o,h1,h2,⟨es,ep,h3,h4,h5⟩,h6⟩
theorem zud {κ:KK} {n:Nat} {sc:Scope} {o i e:Expr} {p pos:Pos} {F O I:EF} (hs:∀ env,swapsWith e (some (.Subscript o i p)) pos.line env=pure false) (h:SE κ n sc e F) (ho:SE κ n sc o O) (hi:SE κ n sc i I) :
  CS κ n sc (.Assign [.Subscript o i p] e pos) (zeH F O I):=by
 refine ⟨?_⟩
 rintro c rfl ok σ μ ρ m s Q E S P
 refine wpAny_Assign_Subscript (h.next rfl ok S .refl .refl S.nbρ P fun v μ1 s1 ρ1 val1 S1 l1 g1 x_ x_ r1 P1=>?_) (hs _)
 refine ho.next rfl ok S1 l1 g1 S.nbρ P1 fun ov μ2 s2 ρ2 val2 S2 l2 g2 i2 k2 r2 P2=>?_
 refine hi.next rfl ok S2 l2 g2 S.nbρ P2 fun iv μ3 s3 ρ3 val3 S3 l3 g3 i3 k3 r3 P3=>?_
 replace P3:=PostC.later l3 g3 S.nbρ P3
 split at P3
 rotate_left
 ·exact P3.elim
 rename_i μ' hop
 replace r1:=(r1.mono i2 k2).mono i3 k3
 replace r2:=r2.mono i3 k3
 obtain ⟨k,rfl,hop⟩:=V.onR_some hop
 obtain ⟨x,rfl,hop⟩:=V.onD_some hop
 obtain ⟨d,rfl,hop⟩:=V.onD_some hop
 rcases D.orI hop with ⟨a,rfl,hop⟩ | hop
 ·obtain ⟨kvs,hk,hop⟩:=zub hop
  obtain ⟨hz,rfl⟩:=zb4 hop
  obtain ⟨t,rfl⟩:=r3.d_inv.int_inv
  obtain ⟨aa,l',rfl,eρ⟩:=r2.inv
  obtain ⟨l,hl,M⟩:=S3.inv.objs _ _ hk
  obtain ⟨a',oo,kws,rfl,g,z,D,hkeys,hvals⟩:=M.inv
  cases eρ.symm.trans hl
  have hD:=zos g D
  have hlen:kws.length=kvs.length:=by have:=congrArg List.length hkeys;simpa using this
  refine wpAny_setItem_pairs (knd:=intKind pg κ.w) (k:=a) (intKind_is pg κ.w a t) hD (fun h' hD' hsb=>?_) (by rw [za7];lia)
  obtain ⟨o',ho',hO'⟩:=zot hD'
  obtain ⟨q1,q2,q3⟩:=zne a r1.d_inv hkeys hvals
  obtain ⟨S4,l4⟩:=S3.put1 (s':={ s3 with heap:=h',toks:=s3.toks+1 }) (o:=.dcI (zfW kvs a d)) eρ (fun b ob hb e=>hsb.extBut b ob (fun q=>hb (by simp [q])) e) (by
   refine .dcI ho' z hO' ?_ ?_
   ·unfold stored zfW
    rw [q1]
    split
    ·exact q2
    ·simp [hkeys]
   ·unfold stored zfW
    rw [q1]
    split
    ·exact q3
    ·simp only [List.map_append,List.map_cons,List.map_nil]
     exact hvals.append (.cons r1.d_inv .nil))
  exact P3 _ ρ3 m S4 l4 .refl
 ·obtain ⟨a,rfl,hop⟩:=D.onS hop
  obtain ⟨kvs,hk,hop⟩:=zuc hop
  obtain ⟨hz,rfl⟩:=zb4 hop
  obtain ⟨t,rfl⟩:=r3.d_inv.str_inv
  obtain ⟨aa,l',rfl,eρ⟩:=r2.inv
  obtain ⟨l,hl,M⟩:=S3.inv.objs _ _ hk
  obtain ⟨a',oo,kws,rfl,g,z,D,hkeys,hvals⟩:=M.inv
  cases eρ.symm.trans hl
  have hD:=zos g D
  have hlen:kws.length=kvs.length:=by have:=congrArg List.length hkeys;simpa using this
  refine wpAny_setItem_pairs (knd:=PySem.strKind pg κ.w) (k:=Mine.Internal.str a) (strKind_is pg κ.w _ t) hD (fun h' hD' hsb=>?_) (by rw [za7];lia)
  obtain ⟨o',ho',hO'⟩:=zot hD'
  obtain ⟨q1,q2,q3⟩:=znf a r1.d_inv hkeys hvals
  obtain ⟨S4,l4⟩:=S3.put1 (s':={ s3 with heap:=h',toks:=s3.toks+1 }) (o:=.dcS (zfc kvs a d)) eρ (fun b ob hb e=>hsb.extBut b ob (fun q=>hb (by simp [q])) e) (by
   refine .dcS ho' z hO' ?_ ?_
   ·unfold stored zfc
    rw [q1]
    split
    ·exact q2
    ·simp [hkeys]
   ·unfold stored zfc
    rw [q1]
    split
    ·exact q3
    ·simp only [List.map_append,List.map_cons,List.map_nil]
     exact hvals.append (.cons r1.d_inv .nil))
  exact P3 _ ρ3 m S4 l4 .refl
theorem zue {P:Params} {ns:List Str} {vs:List Value} {es:List DictEntry} (h:zeE P ns vs es):ns.length=vs.length∧es.length=vs.length:=by
 induction h with
 | nil=>exact ⟨rfl,rfl⟩
 | cons t _ ih=>exact ⟨by simp [ih.1],by simp [ih.2]⟩
theorem zeI (n x:Str) (t:Tok):(Value.str n t).isStr x=(n == x):=rfl
theorem zou {P:Params} {ns:List Str} {vs:List Value} {es:List DictEntry} (h:zeE P ns vs es):(es.any fun e=>e.refKey)=false:=by
 induction h with
 | nil=>rfl
 | cons t _ ih=>rw [List.any_cons,ih];rfl
theorem zlj {P:Params} {ns:List Str} {vs:List Value} {es:List DictEntry} (h:zeE P ns vs es):∀ {i:Nat} {x:Str} {v:Value},ns.Nodup→ns[i]? = some x→vs[i]? = some v→getL x es=some (some v):=by
 induction h with
 | nil=>intro i x v _ h;simp at h
 | @cons n v ns vs es t h ih=>
  intro i x u hn hi hv
  rw [List.nodup_cons] at hn
  unfold getL
  rw [List.find?_cons,zeI]
  cases i with
  | zero=>
   simp at hi hv;subst hi hv
   simp
  | succ i=>
   simp at hi hv
   have:(n == x)=false:=beq_false_of_ne fun e=>hn.1 (by rw [e];exact List.mem_of_getElem? hi)
   rw [this]
   have:=ih hn.2 hi hv
   unfold getL at this
   split at this <;> rename_i q <;> simp only [q]
   ·exact this
   ·split at this <;> cases this
theorem zsv {P:Params} {ns:List Str} {vs:List Value} {es:List DictEntry} (h:zeE P ns vs es) {x:Str} (hx:x∉ns):getL x es=some none∧(es.any fun e=>e.key.isStr x)=false:=by
 have hf:es.find? (fun e=>e.key.isStr x)=none∧(es.any fun e=>e.key.isStr x)=false:=by
  induction h with
  | nil=>exact ⟨rfl,rfl⟩
  | cons t _ ih=>
   rw [List.mem_cons,not_or] at hx
   have:=beq_false_of_ne (Ne.symm hx.1)
   rw [List.find?_cons,zeI,List.any_cons,zeI,this]
   exact ⟨(ih hx.2).1,(ih hx.2).2⟩
 refine ⟨?_,hf.2⟩
 unfold getL
 rw [hf.1,zou h];rfl
theorem zuf {P:Params} {ns:List Str} {vs:List Value} {es:List DictEntry} (h:zeE P ns vs es) (hsh:Int) (key:Value):∀ {i:Nat} {x:Str} {u:Value},ns.Nodup→ns[i]? = some x→zeE P ns (vs.set i u) (putL x hsh key u es)∧(es.any fun e=>e.key.isStr x)=true:=by
 induction h with
 | nil=>intro i x u _ h;simp at h
 | @cons n v ns vs es t h ih=>
  intro i x u hn hi
  rw [List.nodup_cons] at hn
  unfold putL
  rw [zeI,List.any_cons,zeI]
  cases i with
  | zero=>
   simp at hi;subst hi
   simp only [beq_self_eq_true,if_true,List.set_cons_zero,Bool.true_or]
   exact ⟨.cons t h,trivial⟩
  | succ i=>
   simp at hi
   have:(n == x)=false:=beq_false_of_ne fun e=>hn.1 (by rw [e];exact List.mem_of_getElem? hi)
   rw [this]
   simp only [Bool.false_eq_true,if_false,List.set_cons_succ,Bool.false_or]
   exact ⟨.cons t (ih hn.2 hi).1,(ih hn.2 hi (u:=u)).2⟩
theorem zug {P:Params} {ns:List Str} {vs:List Value} {es:List DictEntry} (h:zeE P ns vs es) {x:Str} (hx:x∉ns) (t:Tok) (u:Value):zeE P (ns ++ [x]) (vs ++ [u]) (putL x (PyData.keyHash P x) (.str x t) u es):=by
 induction h with
 | nil=>exact .cons t .nil
 | cons t' _ ih=>
  rw [List.mem_cons,not_or] at hx
  unfold putL
  rw [zeI,beq_false_of_ne (Ne.symm hx.1)]
  exact .cons t' (ih hx.2)
theorem Stt.putL {κ:KK} {c:Cx} {s s':Shared} {σ:Loc} {ρ:List (List Addr)} {μ:Mem} {m:Str→Option Value} (S:Stt κ c s σ ρ μ m) {k:Nat} {l:List Addr} {o:MO} (hk:ρ[k]? = some l)
  (hx:∀ b ob,b∉l→b≠c.L→s.heap.get? b=some ob→s'.heap.get? b=some ob) (hn:s'.heap.Ns c.L m) (M:zcV κ s'.heap (Im s.heap ρ c.fr) o l) (hg:s'.gens=s.gens:=by rfl) (ho:s'.os=s.os:=by rfl) :
  Stt κ c s' σ ρ (μ.set k o) m∧zaG c ρ s s':=by
 obtain ⟨oL,es,ep,hL,hd,hr⟩:=id hn
 have hnf:oL.isFreed=false:=by
  obtain ⟨cl,dc,da,sl⟩:=oL
  dsimp only at hd
  subst hd;rfl
 obtain ⟨oL0,hL0⟩:∃ o0,s.heap.get? c.L=some o0:=by obtain ⟨o0,_,_,h,_⟩:=S.fr.ns;exact ⟨o0,h⟩
 have g1:(s.heap.update c.L fun x_=>oL).get? c.L=some oL:=Heap.get?_update_self _ hL0 hnf
 have g2:∀ b,b≠c.L→(s.heap.update c.L fun x_=>oL).get? b=s.heap.get? b:=fun b hb=>Heap.get?_update_other _ _ (Ne.symm hb)
 obtain ⟨S1,l1⟩:=S.ext (s':={ s with heap:=s.heap.update c.L fun x_=>oL }) (fun b ob hb e=>(g2 b hb).trans e) ⟨oL,es,ep,g1,hd,hr⟩ rfl rfl
 have hLl:c.L∉l:=fun q=>by
  have:=S.inv.nodup
  rw [List.nodup_append] at this
  exact this.2.2 c.L (List.mem_flatten.mpr ⟨l,List.mem_of_getElem? hk,q⟩) c.L (by simp [Cx.fs]) rfl
 obtain ⟨S2,l2⟩:=S1.put1 (s':=s') (o:=o) hk (fun b ob hb e=>by
  by_cases q:b=c.L
  ·subst q
   have e':some oL=some ob:=g1.symm.trans e
   cases e';exact hL
  ·exact hx b ob hb q ((g2 b q).symm.trans e)) (M.keep (fun x_ x_ x_ e=>e) (l1.im (.refl (s:=s)))) hg ho
 exact ⟨S2,l1.trans .refl l2⟩
structure zxE (K:Frag) (C:Addr) (name:Str):Prop where
 plain:plainGet K C name=true
 dict:hasDictIn K C=true
 get:∃ attr,findIn K (.ref C) name=some attr∧noGet K attr=true
 setter:findIn K (.ref C) "__setattr__"=some (some (.builtin "object.__setattr__"))
 over:plainOver K C=true
 taker:takerIn K C name=some none
theorem Rd.handed {w:World} {I:SI} {d:D} {v:Value} (h:Rd w I d v):handedIn v=true:=Rd.casesOn (motive_1:=fun _ v _=>handedIn v=true) h rfl (fun _=>rfl) (fun _ _=>rfl) (fun _ _=>rfl) (fun _=>rfl) (fun _ _ _=>rfl) (fun _ _ _=>rfl) (fun _ _ _ _ _=>rfl) (fun _ _ _ _ _=>rfl)
theorem zmE {κ:KK} {c:Cx} {s:Shared} {σ:Loc} {ρ:List (List Addr)} {μ:Mem} {m:Str→Option Value} (S:Stt κ c s σ ρ μ m) {k:Nat} {val:Value} (r:RV κ.w (Im s.heap ρ c.fr) ρ (.ref k) val) {fs:List D} (h:μ[k]? = some (.inst fs)) :
  ∃ x dx es n vs,val = .ref x∧ρ[k]? = some [x,dx]∧s.heap.get? x=some (instObj κ.C dx)∧s.heap.get? dx=some (dictOf es n)∧zeE κ.w.params (κ.names.take fs.length) vs es∧zaC κ.w (Im s.heap ρ c.fr) fs vs∧fs.length≤κ.names.length:=by
 obtain ⟨a,l',rfl,e⟩:=r.inv
 obtain ⟨l,hl,M⟩:=S.inv.objs _ _ h
 obtain ⟨x,dx,es,n,vs,rfl,r⟩:=M.inv
 cases e.symm.trans hl
 exact ⟨a,dx,es,n,vs,rfl,e,r⟩
structure WFC (κ:KK):Prop extends WF κ where
 attr:∀ (i:Nat) (x:Str),κ.names[i]? = some x→zxE κ.K κ.C x
 nd:κ.names.Nodup
 small:κ.names.length≤100
noncomputable def zsw (i:Nat) (v:V) (μ:Mem):RE:=v.gR.elim .stuck fun k=>(atN μ k).elim .stuck fun fs=>ofO (fs[i]?) μ
noncomputable def zec (i:Nat) (F:EF):EF:=fun σ μ=>(F σ μ).bind fun v μ=>zsw i v μ
theorem zqx {κ:KK} (W:WFC κ) {c:Cx} {i:Nat} {name:Str} (hi:κ.names[i]? = some name) {s:Shared} {σ:Loc} {ρ:List (List Addr)} {μ:Mem} {m:Str→Option Value} (S:Stt κ c s σ ρ μ m) {k:Nat} {val:Value} (r:RV κ.w (Im s.heap ρ c.fr) ρ (.ref k) val) {fs:List D} (h:μ[k]? = some (.inst fs)) {d:D} (hd:fs[i]? = some d)
  {ex:Bool} {Q E:Value→Shared→Prop} (H:∀ v,Rd κ.w (Im s.heap ρ c.fr) d v→Q v { s with toks:=s.toks+1 }):wpAny (model pg κ.w) c.A (getAttr val name ex) Q E s:=by
 obtain ⟨x,dx,es,n,vs,rfl,hk,hx,hdx,he,hvs,hlen⟩:=zmE S r h
 obtain ⟨v,hv,rv⟩:=hvs.get hd
 have A:=W.attr i name hi
 obtain ⟨a,ha,hn⟩:=A.get
 have hil:i < fs.length:=(List.getElem?_eq_some_iff.mp hd).1
 have hni:(κ.names.take fs.length)[i]? = some name:=by rw [List.getElem?_take_of_lt hil];exact hi
 exact get_own S.fr W.inK ⟨hx,rfl,rfl,hdx⟩ A.plain A.dict ha hn (zlj he (W.nd.sublist (List.take_sublist ..)) hni hv) rv.handed (H v rv)
theorem zv3 {κ:KK} (W:WFC κ) {n:Nat} {sc:Scope} {e:Expr} {name:Str} {pos:Pos} {i:Nat} {F:EF} (hi:κ.names[i]? = some name)
  (he:∀ env,eval (.Attribute e name pos) env=(do
   let o ← eval e env
   standAt pos.atName
   let r ← holding [o] (getAttr o name true)
   letTemporaryGo e o r
   pure r)) (h:SE κ n sc e F):SE κ n sc (.Attribute e name pos) (zec i F):=by
 refine ⟨?_⟩
 intro c hc ok σ μ ρ m s Q E S H
 refine Attribute_any_ (h.next hc ok S .refl .refl S.nbρ H fun v μ' s' ρ' val S' l' g' x_ x_ r H'=>?_) (he _)
 obtain ⟨k,e1,H2⟩:=zbr (o:=v.gR) H'
 obtain ⟨fs,hk,H2⟩:=zbr H2
 cases V.gR_s e1
 cases q:fs[i]? with
 | none=>rw [q] at H2;exact H2.elim
 | some d=>
  rw [q] at H2
  refine zqx W hi S' r (znW hk) q fun v rv=>?_
  obtain ⟨S2,l2⟩:=S'.keeps (s':={ s' with toks:=s'.toks+1 }) fun x_ x_ e=>e
  exact H2 _ ρ' v S2 (l'.trans g' l2) g' (.d (rv.mono (l2.im (.refl (s:=s')))))
noncomputable def zej (i:Nat) (d:D) (fs:List D):Option (List D):=if i < fs.length then some (fs.set i d) else if i=fs.length then some (fs ++ [d]) else none
theorem zaC.set {w:World} {I:SI} {d:D} {v:Value} (r:Rd w I d v) {ds:List D} {vs:List Value} {i:Nat} (h:zaC w I ds vs):zaC w I (ds.set i d) (vs.set i v):=
 h.ind (P:=fun ds vs=>∀ i,zaC w I (ds.set i d) (vs.set i v)) (fun _=>.nil) (fun a as ih i=>Nat.casesOn (motive:=fun i=>zaC w I ((_ :: _).set i d) ((_ :: _).set i v)) i (.cons r as) fun i=>.cons a (ih i)) i
theorem zsx {B h:Heap} {L dx:Addr}:∃ rest:List (Addr×Obj),(∀ p∈rest,p.1≠dx)∧(∀ p∈rest,h.get? p.1=some p.2∧p.1≠L∧B.get? p.1=none)∧∀ b ob,b≠dx→b≠L→B.get? b=none→h.get? b=some ob→(b,ob)∈rest:=by
 refine ⟨(List.range h.objs.size).filterMap fun b=>if b=L∨b=dx then none else if (B.get? b).isSome then none else (h.get? b).map (b,·),fun p hp=>?_,fun p hp=>?_,fun b ob h1 h2 h3 h4=>?_⟩
 ·obtain ⟨b,hb,e⟩:=List.mem_filterMap.mp hp
  split at e
  ·cases e
  ·rename_i q
   split at e
   ·cases e
   ·obtain ⟨o,ho,rfl⟩:=Option.map_eq_some_iff.mp e
    exact fun r=>q (.inr r)
 ·obtain ⟨b,hb,e⟩:=List.mem_filterMap.mp hp
  split at e
  ·cases e
  ·rename_i q
   split at e
   ·cases e
   ·rename_i z
    obtain ⟨o,ho,rfl⟩:=Option.map_eq_some_iff.mp e
    refine ⟨ho,fun r=>q (.inl r),?_⟩
    cases y:B.get? b with
    | none=>rfl
    | some o'=>rw [y] at z;exact absurd rfl z
 ·refine List.mem_filterMap.mpr ⟨b,List.mem_range.mpr (Heap.lt_size h4),?_⟩
  rw [if_neg (by rintro (q | q);exact h2 q;exact h1 q),h3,h4];rfl
theorem zlO {κ:KK} (W:WFC κ) {c:Cx} {i:Nat} {name:Str} (hi:κ.names[i]? = some name) {s:Shared} {σ:Loc} {ρ:List (List Addr)} {μ:Mem} {m:Str→Option Value} (S:Stt κ c s σ ρ μ m) {k:Nat} {val:Value} (r:RV κ.w (Im s.heap ρ c.fr) ρ (.ref k) val) {fs fs':List D} (h:μ[k]? = some (.inst fs)) {d:D} {v:Value} (rd:Rd κ.w (Im s.heap ρ c.fr) d v) (hop:zej i d fs=some fs')
  {E:Value→Shared→Prop} {Q:Unit→Shared→Prop} (H:∀ s',Stt κ c s' σ ρ (μ.set k (.inst fs')) m→zaG c ρ s s'→Q () s'):wpAny (model pg κ.w) c.A (setAttr val name v) Q E s:=by
 obtain ⟨x,dx,es,n,vs,rfl,hk,hx,hdx,he,hvs,hlen⟩:=zmE S r h
 have A:=W.attr i name hi
 have hil:i < κ.names.length:=(List.getElem?_eq_some_iff.mp hi).1
 have hxd:x≠dx:=by
  have:=S.inv.nodup
  rw [List.nodup_append] at this
  have:=List.Sublist.nodup (List.sublist_flatten_of_mem (List.mem_of_getElem? hk)) this.1
  simpa using this
 have hdL:dx≠c.L∧κ.B.get? dx=none:=by
  have hm:dx∈ρ.flatten:=List.mem_flatten.mpr ⟨_,List.mem_of_getElem? hk,by simp⟩
  have:=S.inv.nodup
  rw [List.nodup_append] at this
  exact ⟨fun e=>this.2.2 dx hm c.L (by simp [Cx.fs]) e,S.inv.new dx hm⟩
 obtain ⟨rest,r1,r2,r3⟩:=zsx (B:=κ.B) (h:=s.heap) (L:=c.L) (dx:=dx)
 have N:News κ.B c.L s.heap ((dx,dictOf es n) :: rest):=fun p hp=>by
  rcases List.mem_cons.mp hp with rfl | hp
  ·exact ⟨hdx,hdL.1,hdL.2⟩
  ·exact r2 p hp
 have hents:∃ ns',ns' = κ.names.take fs'.length∧∃ vs',zeE κ.w.params ns' vs' (putL name (PyData.keyHash κ.w.params name) (.str name (s.toks+1)) v es)∧zaC κ.w (Im s.heap ρ c.fr) fs' vs'∧fs'.length≤κ.names.length:=by
  refine ⟨_,rfl,?_⟩
  unfold zej at hop
  split at hop
  ·rename_i hlt
   cases hop
   have hni:(κ.names.take fs.length)[i]? = some name:=by rw [List.getElem?_take_of_lt hlt];exact hi
   refine ⟨vs.set i v,?_,hvs.set rd,by simpa using hlen⟩
   have:=(zuf he (PyData.keyHash κ.w.params name) (.str name (s.toks+1)) (u:=v) (W.nd.sublist (List.take_sublist ..)) hni).1
   rw [List.length_set];exact this
  ·split at hop
   ·rename_i heq
    cases hop
    subst heq
    refine ⟨vs ++ [v],?_,hvs.append (.cons rd .nil),by simp;lia⟩
    have hnot:name∉κ.names.take fs.length:=fun q=>by
     obtain ⟨j,hj⟩:=List.getElem?_of_mem q
     have hjl:j < fs.length:=by have:=(List.getElem?_eq_some_iff.mp hj).1;rw [List.length_take] at this;lia
     rw [List.getElem?_take_of_lt hjl] at hj
     have:=(List.getElem?_inj hil W.nd).mp (hi.trans hj.symm)
     lia
    have:=zug he hnot (s.toks+1) v
    rw [List.length_append,List.length_singleton]
    rw [List.take_add_one,hi]
    exact this
   ·cases hop
 obtain ⟨ns',hns,vs',he',hvs',hlen'⟩:=hents
 have hsome:(getL name es).isSome=true:=by
  unfold getL
  split
  ·rfl
  ·rw [zou he];rfl
 refine set_dict (es':=putL name (PyData.keyHash κ.w.params name) (.str name (s.toks+1)) v es) (n':=putN name es n) S.fr W.inK N ⟨hx,rfl,rfl,hdx⟩ rfl A.setter A.over A.taker A.dict hsome rfl (.head r1) (by rw [(zue he').2,← hvs'.length];have:=W.small;lia) fun h' F' N'=>?_
 have hd':=(N' _ (List.mem_cons_self ..)).1
 obtain ⟨S',l'⟩:=S.putL (s':={ s with heap:=h',toks:=s.toks+2 }) (o:=.inst fs') hk (fun b ob hb hL e=>by
  have hb2:b≠dx:=fun q=>hb (by simp [q])
  cases q:κ.B.get? b with
  | some o'=>
   have e1:=S.inv.keep b o' q
   rw [e] at e1;cases e1
   exact F'.keep b _ q
  | none=>exact (N' (b,ob) (List.mem_cons_of_mem _ (r3 b ob hb2 hL q e))).1) F'.ns
  (by
   refine .inst ?_ hd' (hns▸he') hvs' hlen'
   by_cases q:κ.B.get? x=none
   ·have hxL:x≠c.L:=by
     have hm:x∈ρ.flatten:=List.mem_flatten.mpr ⟨_,List.mem_of_getElem? hk,by simp⟩
     have:=S.inv.nodup
     rw [List.nodup_append] at this
     exact fun e=>this.2.2 x hm c.L (by simp [Cx.fs]) e
    exact (N' (x,_) (List.mem_cons_of_mem _ (r3 x _ hxd hxL q hx))).1
   ·obtain ⟨o',h⟩:=Option.ne_none_iff_exists'.mp q
    have e1:=S.inv.keep x o' h
    rw [hx] at e1;cases e1
    exact F'.keep x _ h)
 exact H _ S' l'
noncomputable def ziN (i:Nat) (F O:EF):CF:=fun σ μ=>(F σ μ).bind fun v μ=>(O σ μ).bind fun o μ=>o.gR.elim .stuck fun k=>v.gD.elim .stuck fun d=>(atN μ k).elim .stuck fun fs=>(zej i d fs).elim .stuck fun fs'=>.ok (.next σ) (μ.set k (.inst fs'))
theorem zv4 {κ:KK} (W:WFC κ) {n:Nat} {sc:Scope} {o e:Expr} {name:Str} {p pos:Pos} {i:Nat} {F O:EF} (hi:κ.names[i]? = some name) (hs:∀ env,swapsWith e (some (.Attribute o name p)) pos.line env=pure false) (h:SE κ n sc e F) (ho:SE κ n sc o O) :
  CS κ n sc (.Assign [.Attribute o name p] e pos) (ziN i F O):=by
 refine ⟨?_⟩
 rintro c rfl ok σ μ ρ m s Q E S P
 refine plainObj_wpAny_Assign_Attribute (h.next rfl ok S .refl .refl S.nbρ P fun v μ1 s1 ρ1 val1 S1 l1 g1 x_ x_ r1 P1=>?_) (hs _)
 refine ho.next rfl ok S1 l1 g1 S.nbρ P1 fun ov μ2 s2 ρ2 val2 S2 l2 g2 i2 k2 r2 P2=>?_
 replace P2:=PostC.later l2 g2 S.nbρ P2
 obtain ⟨k,e1,K1⟩:=zbr P2
 obtain ⟨d,e2,K2⟩:=zbr K1
 obtain ⟨fs,hk,K3⟩:=zbr K2
 obtain ⟨fs',hf,K4⟩:=zbr K3
 cases V.gR_s e1
 cases V.gD_s e2
 exact zlO W hi S2 r2 (znW hk) (r1.mono i2 k2).d_inv hf fun s' S' l'=>K4 s' ρ2 m S' l' .refl
noncomputable def zlP (i:Nat) (O F:EF):CF:=fun σ μ=>(O σ μ).bind fun o μ=>o.gR.elim .stuck fun k=>(atN μ k).elim .stuck fun fs=>((fs[i]?).bind D.gI).elim .stuck fun a=>(F σ μ).bind fun v μ'=>v.gI.elim .stuck fun b=>(atN μ' k).elim .stuck fun fs'=>(zej i (.int (a+b)) fs').elim .stuck fun fs''=>.ok (.next σ) (μ'.set k (.inst fs''))
theorem zv5 {κ:KK} (W:WFC κ) {n:Nat} {sc:Scope} {o e:Expr} {name:Str} {p pos:Pos} {i:Nat} {F O:EF} (hi:κ.names[i]? = some name) (ho:SE κ n sc o O) (h:SE κ n sc e F):CS κ n sc (.AugAssign (.Attribute o name p) .Add e pos) (zlP i O F):=by
 refine ⟨?_⟩
 rintro c rfl ok σ μ ρ m s Q E S P
 refine wpAny_AugAssign_AttributeAny (ho.next rfl ok S .refl .refl S.nbρ P fun ov μ1 s1 ρ1 val1 S1 l1 g1 x_ x_ r1 P1=>?_)
 obtain ⟨k,e1,P2⟩:=zbr P1
 obtain ⟨fs,hk,P2⟩:=zbr P2
 replace hk:=znW hk
 obtain ⟨a,ha,P2⟩:=zbr P2
 replace ha:=itI ha
 cases V.gR_s e1
 refine zqx W hi S1 r1 hk ha fun w rw=>?_
 obtain ⟨t,rfl⟩:=rw.int_inv
 obtain ⟨S2,l2⟩:=S1.keeps (s':={ s1 with toks:=s1.toks+1 }) fun x_ x_ e=>e
 refine h.next rfl ok S2 (l1.trans g1 l2) g1 S.nbρ P2 fun v μ3 s3 ρ3 val3 S3 l3 g3 i3 k3 r3 P3=>?_
 replace P3:=PostC.later l3 g3 S.nbρ P3
 obtain ⟨b,hb,P4⟩:=zbr P3
 obtain ⟨fs',hk',P4⟩:=zbr P4
 replace hk':=znW hk'
 obtain ⟨fs'',hop,P4⟩:=zbr P4
 cases V.gI_s hb
 obtain ⟨u,rfl⟩:=r3.d_inv.int_inv
 refine PyProof.Rows.iadd_int ?_
 obtain ⟨S4,l4⟩:=S3.keeps (s':={ s3 with toks:=s3.toks+1 }) fun x_ x_ e=>e
 refine zlO W hi S4 ((r1.mono (l2.im (.refl (s:=s1))) fun x_ x_ e=>e).mono (fun a o q=>l4.im (.refl (s:=s3)) a o (i3 a o q)) k3) hk' (.int _ _) hop fun s' S' l'=>P4 s' ρ3 m S' (l4.trans .refl l') .refl
structure ze7 (κ:KK) (f:Addr) (body:List Stmt) (sc:Scope) (q:Str) (ps:List Str) (ds:List Value):Prop where
 obj:∃ o fd,κ.B.get? f=some o∧o.data = .func fd∧fd.scope=sc∧fd.globals=mainGlobals∧fd.closure=[]∧fd.builtins=builtinsNs∧fd.body = .stmts body∧fd.qualname=q∧κ.B.CodeRec fd.code q∧
  ∀ vals:List Value,vals.length+ds.length=ps.length→∀ (A:Around) (E:Value→Shared→Prop) (s:Shared) (Q:List (Str×Value)→Shared→Prop),κ.B.StaysIn s.heap→Q (ps.zip (vals ++ ds)) s→wpAny (model pg κ.w) A (bindArgs fd ⟨vals,[]⟩) Q E s
 kind:sc.kind = .function
 co:sc.isCoroutine=false
 gen:sc.isGenerator=false
 slots:∀ (i:Nat) (x:Str),ps[i]? = some x→sc.names[i]? = some (x,NameKind.local)
 names:(sc.names.map (·.1)).Nodup
 len:ds.length≤ps.length
theorem zkP:∀ (ps:List Str) (vs:List Value),((ps.zip vs).map (·.1)).Sublist ps
 | [],_=>.slnil
 | _ :: _,[]=>List.nil_sublist _
 | p :: ps,v :: vs=>.cons₂ _ (zkP ps vs)
theorem zmF {ps:List Str}:∀ {vs:List Value} {i:Nat} {x:Str} {v:Value},ps.Nodup→ps[i]? = some x→vs[i]? = some v→(ps.zip vs).reverse.lookup x=some v:=by
 intro vs i x v hn hi hv
 have hm:(x,v)∈ps.zip vs:=by
  have:(ps.zip vs)[i]? = some (x,v):=by rw [List.getElem?_zip_eq_some];exact ⟨hi,hv⟩
  exact List.mem_of_getElem? this
 have hk:((ps.zip vs).map (·.1)).Nodup:=by
  exact hn.sublist (zkP ps vs)
 have gen:∀ (l:List (Str×Value)),(l.map (·.1)).Nodup→(x,v)∈l→l.lookup x=some v:=by
  intro l
  induction l with
  | nil=>intro _ h;simp at h
  | cons p l ih=>
   intro hn h
   obtain ⟨y,w⟩:=p
   rw [List.map_cons,List.nodup_cons] at hn
   rw [List.lookup_cons]
   rcases List.mem_cons.mp h with e | h
   ·cases e;simp
   ·have:x≠y:=fun e=>hn.1 (by rw [← e];exact List.mem_map.mpr ⟨_,h,rfl⟩)
    rw [beq_false_of_ne this]
    exact ih hn.2 h
 refine gen _ ?_ (List.mem_reverse.mpr hm)
 rw [List.map_reverse]
 exact (List.reverse_perm _).symm.nodup hk
theorem zov {sc:Scope} {ps:List Str} (h:∀ (i:Nat) (x:Str),ps[i]? = some x→sc.names[i]? = some (x,NameKind.local)) (hn:(sc.names.map (·.1)).Nodup):ps.Nodup:=by
 have e:ps=(sc.names.map (·.1)).take ps.length:=by
  apply List.ext_getElem?
  intro i
  rcases Nat.lt_or_ge i ps.length with q | q
  ·rw [List.getElem?_take_of_lt q,List.getElem?_map,h i ps[i] (List.getElem?_eq_getElem q)]
   simp [q]
  ·rw [List.getElem?_eq_none q,List.getElem?_eq_none (by simp;lia)]
 rw [e];exact hn.sublist (List.take_sublist ..)
noncomputable def zaK (sc:Scope) (vs:List V):Loc:=vs.map some ++ List.replicate (sc.names.length - vs.length) none
noncomputable def frz (nb:Nat) (μ:Mem):V→Option V
 | .d x=>some (.d x)
 | .ref k=>if k < nb then some (.ref k) else (res μ (.ref k)).map .d
noncomputable def zhO (nb:Nat) (v:V) (μ:Mem):RE:=match frz nb μ v with
 | some v'=>.ok v' (μ.take nb)
 | none=>.stuck
noncomputable def kFn (sc:Scope) (G:CF) (dv:List V):List V→Mem→RE:=fun vs μ=>match G (zaK sc (vs ++ dv)) μ with
 | .ok (.next _) μ'=>zhO μ.length (.d .none) μ'
 | .ok (.ret v) μ'=>zhO μ.length v μ'
 | .exc x μ'=>.exc x (μ'.take μ.length)
 | .stuck=>.stuck
theorem Inv.mid {κ:KK} {h:Heap} {fs:List Fm} {ρ1 ρ2 ρ3:List (List Addr)} {μ1 μ2 μ3:Mem} (I:Inv κ h fs (ρ1 ++ ρ2 ++ ρ3) (μ1 ++ μ2 ++ μ3)) (h1:ρ1.length=μ1.length) (h2:ρ2.length=μ2.length):Inv κ h fs (ρ1 ++ ρ3) (μ1 ++ μ3):=by
 have hsub:∀ a,a∈(ρ1 ++ ρ3).flatten→a∈(ρ1 ++ ρ2 ++ ρ3).flatten:=fun a ha=>by
  simp only [List.flatten_append,List.mem_append] at ha ⊢
  exact ha.elim (fun q=>.inl (.inl q)) .inr
 have hl:(ρ1 ++ ρ3).length=(μ1 ++ μ3).length:=by have:=I.len;simp only [List.length_append] at this ⊢;lia
 refine ⟨I.keep,I.ns,?_,fun a ha=>I.new a (hsub a ha),I.newF,hl,fun k o hk=>?_⟩
 ·refine I.nodup.sublist (List.Sublist.append ?_ (List.Sublist.refl _))
  simp only [List.flatten_append]
  exact List.Sublist.append (List.sublist_append_left ..) (List.Sublist.refl _)
 ·have key:∃ j:Nat,(μ1 ++ μ2 ++ μ3)[j]? = some o∧(ρ1 ++ ρ3)[k]? = (ρ1 ++ ρ2 ++ ρ3)[j]?:=by
   rcases Nat.lt_or_ge k μ1.length with q | q
   ·refine ⟨k,?_,?_⟩
    ·rw [List.getElem?_append_left q] at hk
     rw [List.append_assoc,List.getElem?_append_left q];exact hk
    ·rw [List.append_assoc,List.getElem?_append_left (by lia),List.getElem?_append_left (by lia)]
   ·refine ⟨k+μ2.length,?_,?_⟩
    ·rw [List.getElem?_append_right q] at hk
     rw [List.getElem?_append_right (by simp;lia)]
     simp only [List.length_append]
     rw [show k+μ2.length - (μ1.length+μ2.length)=k - μ1.length by lia];exact hk
    ·rw [List.getElem?_append_right (by lia),List.getElem?_append_right (by simp;lia)]
     simp only [List.length_append]
     congr 1;lia
  obtain ⟨j,hj,e⟩:=key
  obtain ⟨l,hl,M⟩:=I.objs j o hj
  exact ⟨l,e.trans hl,M.keep (fun x_ x_ x_ e=>e) fun a o ⟨x,y,z⟩=>⟨x,fun q=>y (hsub a q),z⟩⟩
set_option tactic.hygienic true in
theorem zxF {κ:KK} {h:Heap} {fs:List Fm} {ρ e:List (List Addr)} {μ':Mem} {v v':V} {val:Value} (I:Inv κ h fs (ρ ++ e) μ') (r:RV κ.w (Im h (ρ ++ e) (fs.map (·.L))) (ρ ++ e) v val) (hf:frz ρ.length μ' v=some v') :
  RV κ.w (Im h ρ (fs.map (·.L))) ρ v' val:=by
 have hIm:∀ a o,Im h (ρ ++ e) (fs.map (·.L)) a o→Im h ρ (fs.map (·.L)) a o:=fun a o ⟨x,y,z⟩=>⟨x,fun q=>y (by rw [List.flatten_append];exact List.mem_append_left _ q),z⟩
 obtain x' | k:=v
 ·cases hf;exact .d (r.inv.mono hIm)
 ·obtain ⟨a,l,rfl,eρ⟩:=r.inv
  dsimp only [frz] at hf
  by_cases hlt:k < ρ.length
  ·rw [if_pos hlt] at hf
   cases hf
   rw [List.getElem?_append_left hlt] at eρ
   exact .ref eρ
  ·rw [if_neg hlt] at hf
   obtain ⟨x,hx,rfl⟩:=Option.map_eq_some_iff.mp hf
   obtain ⟨o,hm,ho⟩:=Option.bind_eq_some_iff.mp hx
   have hnd:=I.nodup
   rw [List.nodup_append] at hnd
   have hout:∀ b∈a :: l,b∉ρ.flatten∧b∉fs.map (·.L):=fun b hb=>by
    refine ⟨fun q=>?_,fun q=>hnd.2.2 b (List.mem_flatten.mpr ⟨_,List.mem_of_getElem? eρ,hb⟩) b q rfl⟩
    obtain ⟨l',hl',hb'⟩:=List.mem_flatten.mp q
    obtain ⟨j,hj⟩:=List.getElem?_of_mem hl'
    have hjl:=(List.getElem?_eq_some_iff.mp hj).1
    have:=zon hnd.1 (by rw [List.getElem?_append_left hjl];exact hj) eρ hb' hb
    lia
   obtain ⟨l',hl',M⟩:=I.objs _ _ hm
   cases eρ.symm.trans hl'
   exact .d ((M.vw ho).toRd hIm fun o g=>⟨g,(hout a (.head _)).1,(hout a (.head _)).2⟩)
structure zjr (κ:KK) (n:Nat) (A:Around) (fs:List Fm):Prop where
 frames:A.frames=some (zod fs)
 handled:A.handled=none
 depth:A.depth+20 * n+20≤1000
 units:A.units+100 * n+100≤9900
noncomputable def zlQ (κ:KK) (s:Shared) (fs:List Fm) (ρ:List (List Addr)) (r:RE) (R:Result→Shared→Prop):Prop:=match r with
 | .ok v μ'=>∀ s' val,Inv κ s'.heap fs ρ μ'→zd9 s s'→(∀ a o,Im s.heap ρ (fs.map (·.L)) a o→s'.heap.get? a=some o)→s'.gens=s.gens→s'.os=s.os→RV κ.w (Im s'.heap ρ (fs.map (·.L))) ρ v val→R (.ok (.ret val)) s'
 | .exc x μ'=>∀ s' a fp,Inv κ s'.heap fs (ρ ++ [a :: fp]) (μ' ++ [x.mo])→zd9 s s'→(∀ b o,Im s.heap ρ (fs.map (·.L)) b o→s'.heap.get? b=some o)→s'.gens=s.gens→s'.os=s.os→(∀ b∈a :: fp,s.heap.get? b=none)→R (.error (.ref a)) s'
 | .stuck=>False
structure zaU (κ:KK) (n:Nat) (f:Addr) (k:Nat) (Φ:List V→Mem→RE):Prop where
 run:∀ (A:Around) (fs:List Fm) (s:Shared) (ρ:List (List Addr)) (μ:Mem) (vs:List V) (vals:List Value) (R:Result→Shared→Prop),zjr κ n A fs→Inv κ s.heap fs ρ μ→s.gens = #[]→s.os=κ.os→RVs κ.w (Im s.heap ρ (fs.map (·.L))) ρ vs vals→vs.length=k→
  κ.B.objs.size≤s.heap.objs.size→zlQ κ s fs ρ (Φ vs μ) R→codeAny (model pg κ.w) A (.call (.ref f) ⟨vals,[]⟩) R s
theorem RVs.get {w:World} {I:SI} {ρ:List (List Addr)} {vs:List V} {xs:List Value} (h:RVs w I ρ vs xs):∀ {i:Nat} {v:V},vs[i]? = some v→∃ x,xs[i]? = some x∧RV w I ρ v x:=by
 induction h with
 | nil=>intro i v h;simp at h
 | cons a _ ih=>
  intro i v h
  cases i with
  | zero=>simp at h;subst h;exact ⟨_,rfl,a⟩
  | succ i=>simp at h;simpa using ih h
theorem RVs.append {w:World} {I:SI} {ρ:List (List Addr)} {vs vs':List V} {xs xs':List Value} (h:RVs w I ρ vs xs) (h':RVs w I ρ vs' xs'):RVs w I ρ (vs ++ vs') (xs ++ xs'):=by
 induction h with
 | nil=>exact h'
 | cons a _ ih=>exact .cons a ih
theorem zdR {s:Shared} {ρ ρ':List (List Addr)} (h:zbj s ρ ρ'):∃ e,ρ' = ρ ++ e:=let ⟨e,h,_⟩:=h;⟨e,h⟩
noncomputable def zaQ (nb:Nat):RX Fw→RE
 | .ok (.next _) μ'=>zhO nb (.d .none) μ'
 | .ok (.ret v) μ'=>zhO nb v μ'
 | .exc x μ'=>.exc x (μ'.take nb)
 | .stuck=>.stuck
theorem zlR (sc:Scope) (G:CF) (dv vs:List V) (μ:Mem):kFn sc G dv vs μ=zaQ μ.length (G (zaK sc (vs ++ dv)) μ):=by
 unfold kFn zaQ
 cases G (zaK sc (vs ++ dv)) μ with
 | ok f μ'=>cases f <;> rfl
 | exc=>rfl
 | stuck=>rfl
theorem Inv.dropL {κ:KK} {h:Heap} {fs:List Fm} {ρ:List (List Addr)} {μ:Mem}:∀ {l:List Fm},Inv κ h (l ++ fs) ρ μ→Inv κ h fs ρ μ
 | [],I=>I
 | _ :: _,I=>Inv.dropL (Inv.tail I)
set_option tactic.hygienic true in
theorem zin {κ:KK} {fs:List Fm} {s sk:Shared} {ρ ρk:List (List Addr)} {μ:Mem} {c:Cx} {n:Nat} {R:Result→Shared→Prop} (ok:zbx n c) (hnb:c.nb=ρ.length) (hrest:∃ pins,c.rest=pins ++ fs) (hgens:s.gens = #[]) (hos:s.os=κ.os) (hlen:ρ.length=μ.length)
  (hth:zd9 s sk) (hIm:∀ a o,Im s.heap ρ (fs.map (·.L)) a o→Im sk.heap ρk c.fr a o) (hρ:∃ e,ρk=ρ ++ e) (hnew:∀ a∈ρk.flatten,a∈ρ.flatten∨s.heap.get? a=none) {r:RX Fw} (H:zlQ κ s fs ρ (zaQ μ.length r) R) :
  za6 κ c sk ρk (fun e s'=>wpAny (model pg κ.w) c.A (leaving c.env e) (fun x_ s''=>R (.error e) s'') (fun e' s''=>R (.error e') s'') s') r (zes κ c sk ρk fun f s'=>R (.ok (.ret (match f with | .ret v=>v | _=>.none))) s'):=by
 obtain ⟨pins,hr⟩:=hrest
 obtain ⟨e0,rfl⟩:=hρ
 have hdrop:∀ {s' σ' ρ' μ' m'},Stt κ c s' σ' ρ' μ' m'→zaG c (ρ ++ e0) sk s'→zd9 s s'∧(∀ a o,Im s.heap ρ (fs.map (·.L)) a o→s'.heap.get? a=some o)∧s'.gens=s.gens∧s'.os=s.os:=fun S' l'=>
  ⟨fun a o e=>let ⟨o',e'⟩:=hth a o e;l'.1 a o' e',fun a o e=>l'.2 a o (hIm a o e),S'.gens.trans hgens.symm,S'.os.trans hos.symm⟩
 have toFs:∀ {h ρ' μ' m'},Inv κ h (c.fs m') ρ' μ'→Inv κ h fs ρ' μ':=fun {h ρ' μ' m'} I=>by
  have I':Inv κ h ((⟨c.L,.act c.env m'⟩ :: pins) ++ fs) ρ' μ':=by
   have e:c.fs m' = (⟨c.L,.act c.env m'⟩ :: pins) ++ fs:=by show _ :: c.rest=_;rw [hr];rfl
   rw [← e];exact I
  exact I'.dropL
 have hcut:∀ {s' σ' e μ' m'},Stt κ c s' σ' (ρ ++ e) μ' m'→Inv κ s'.heap fs ρ (μ'.take μ.length):=fun {s' σ' e μ' m'} S'=>by
  have h1:=S'.inv.len
  rw [List.length_append] at h1
  have:=Inv.mid (ρ1:=ρ) (ρ2:=e) (ρ3:=[]) (μ1:=μ'.take μ.length) (μ2:=μ'.drop μ.length) (μ3:=[]) (by
   rw [List.append_nil,List.append_nil,List.take_append_drop];exact toFs S'.inv) (by rw [List.length_take];lia) (by rw [List.length_drop];lia)
  rw [List.append_nil,List.append_nil] at this;exact this
 have hfr:∀ a,a∈fs.map (·.L)→a∈c.fr:=fun a ha=>by
  show a∈c.L :: c.rest.map (·.L)
  rw [hr,List.map_append]
  exact List.mem_cons_of_mem _ (List.mem_append_right _ ha)
 cases r with
 | stuck=>exact H.elim
 | ok fl μ'=>
  cases fl with
  | next σ'=>
   intro s' ρ' m' S' l' g'
   obtain ⟨e,rfl⟩:=zdR g'
   rw [List.append_assoc] at S'
   obtain ⟨k1,k2,k3,k4⟩:=hdrop S' l'
   exact H s' .none (hcut S') k1 k2 k3 k4 (.d .none)
  | ret v=>
   intro s' ρ' m' val S' l' g' r
   obtain ⟨e,rfl⟩:=zdR g'
   rw [List.append_assoc] at S' r
   obtain ⟨k1,k2,k3,k4⟩:=hdrop S' l'
   unfold zaQ zhO at H
   dsimp only at H
   split at H
   ·rename_i v' hf
    refine H s' val (hcut S') k1 k2 k3 k4 ?_
    rw [← hlen] at hf
    exact zxF (toFs S'.inv) (r.mono (fun a o ⟨x,y,z⟩=>⟨x,y,fun q=>z (hfr a q)⟩) fun x_ x_ e=>e) hf
   ·exact H.elim
 | exc x μ'=>
  intro s' ρ' m' a fp S' l' g' hnb2
  obtain ⟨dx,t,rfl,X⟩:=Exc.of S' hnb2
  show wpAny _ _ (noteFrame (.ref a) c.env >>= fun x_=>setFlight (.ref a) none) _ _ _
  refine wpAny_bind (zlg ok X fun s2 t2 ht X2 l2 g2=>zhb X2 ht fun s3 X3 l3=>?_)
  have l03:=l'.transG g' (l2.transG g2 l3)
  have g03:=g'.trans g2 l'.1
  have hρl:ρ'.length=μ'.length:=X3.idx.2
  have hnb':ρ.length≤μ'.length:=hnb▸hnb2
  have hpre:ρ'.take ρ.length=ρ:=by
   apply List.ext_getElem?
   intro k
   rcases Nat.lt_or_ge k ρ.length with z | z
   ·have:=g03.low k (by rw [hnb];exact z)
    rw [List.getElem?_append_left (by lia),List.getElem?_append_left z] at this
    rw [List.getElem?_take_of_lt z];exact this
   ·rw [List.getElem?_eq_none z,List.getElem?_eq_none (by rw [List.length_take];lia)]
  have hsplit:ρ' = ρ ++ ρ'.drop ρ.length:=by
   have:=(List.take_append_drop ρ.length ρ').symm
   rw [hpre] at this;exact this
  obtain ⟨k1,k2,k3,k4⟩:=hdrop X3.stt l03
  have hIt:=toFs X3.stt.inv
  have hmid:=Inv.mid (ρ1:=ρ) (ρ2:=ρ'.drop ρ.length) (ρ3:=[a :: dx :: t2]) (μ1:=μ'.take μ.length) (μ2:=μ'.drop μ.length) (μ3:=[x.mo]) (by
   rw [← hsplit,List.take_append_drop];exact hIt) (by rw [List.length_take];lia) (by rw [List.length_drop,List.length_drop];lia)
  refine H s3 a (dx :: t2) hmid k1 k2 k3 k4 fun b hb=>?_
  have h1:=g03.new b (by rw [List.flatten_append];exact List.mem_append_right _ (by simpa using hb))
  rcases h1 with h1 | h1
  ·rcases hnew b h1 with h1 | h1
   ·have hnd2:=hmid.nodup
    rw [List.nodup_append,List.flatten_append,List.nodup_append] at hnd2
    exact absurd rfl (hnd2.1.2.2 b h1 b (by simpa using hb))
   ·exact h1
  ·exact zd9.none hth h1
theorem zlk {κ:KK} (W:WF κ) {n:Nat} {f:Addr} {body:List Stmt} {sc:Scope} {q:Str} {ps:List Str} {ds:List Value} (F:ze7 κ f body sc q ps ds) (hcell:∀ x∈sc.names,x.2≠.cell) {dv:List V} (hdv:∀ I ρ,RVs κ.w I ρ dv ds)
  {A:Around} {fs:List Fm} {s:Shared} {ρ:List (List Addr)} {μ:Mem} {vs:List V} {vals:List Value} {R:Result→Shared→Prop} (C:zjr κ (n+1) A fs) (I:Inv κ s.heap fs ρ μ) (hgens:s.gens = #[]) (hos:s.os=κ.os) (rs:RVs κ.w (Im s.heap ρ (fs.map (·.L))) ρ vs vals)
  (hk:vs.length=ps.length - ds.length) (hsz:κ.B.objs.size≤s.heap.objs.size)
  (H:∀ (c:Cx) (s1:Shared) (m:Str→Option Value),c.sc=sc→c.nb=ρ.length→c.rest=fs→zbx n c→Stt κ c s1 (zaK sc (vs ++ dv)) ρ μ m→zd9 s s1→(∀ a o,Im s.heap ρ (fs.map (·.L)) a o→Im s1.heap ρ c.fr a o)→
   wpAny (model pg κ.w) c.A (execs body c.env) (fun f s'=>R (.ok (.ret (match f with | .ret v=>v | _=>.none))) s') (fun e s'=>wpAny (model pg κ.w) c.A (leaving c.env e) (fun x_ s''=>R (.error e) s'') (fun e' s''=>R (.error e') s'') s') s1) :
  codeAny (model pg κ.w) A (.call (.ref f) ⟨vals,[]⟩) R s:=by
 obtain ⟨o,fd,ho,hdat,e1,e2,e3,e4,e5,e6,hcd,hbind⟩:=F.obj
 have hdl:=F.len
 have hvl:vals.length+ds.length=ps.length:=by rw [← rs.length,hk];lia
 have ho':=I.keep _ _ ho
 refine codeAny_call_function (by have:=C.depth;show A.depth < 1000;lia) ho' hdat (by rw [e1];exact F.co) (by rw [e1];exact F.gen) e5 (e6▸hcd.keeps I.keep) ?_
 refine hbind vals hvl _ _ _ _ I.keep ?_
 rw [e1,e2,e3,e4,e6]
 have hnd:=zov F.slots F.names
 have hloc:∀ x∈ps.zip (vals ++ ds),sc.names.lookup x.1=some .local:=fun x hx=>by
  obtain ⟨i,hi⟩:=List.getElem?_of_mem hx
  obtain ⟨h1,_⟩:=(List.getElem?_zip_eq_some).mp hi
  exact zbq F.names (F.slots i _ h1)
 refine wpAny_newFunctionEnv hcell hloc (fun h₁ hns hsb=>⟨(W.lim.keeps I.keep).fresh _ hsb,?_⟩) F.kind
 show codeAny _ A (.func body (envOf q sc s.heap.objs.size f fd.code)) R _
 refine codeAny_func ?_
 have hkeep:∀ b o,s.heap.get? b=some o→h₁.get? b=some o:=fun b o e=>hsb.extBut b o (Nat.ne_of_lt (Heap.lt_size e)) (Heap.get?_push_of_some _ e)
 have hlen:=I.len
 have hLn:s.heap.get? s.heap.objs.size=none:=zbu (Nat.le_refl _)
 let c:Cx:=⟨A.deeper (envOf q sc s.heap.objs.size f fd.code),q,sc,s.heap.objs.size,f,fd.code,fs,ρ.length,[],[]⟩
 let s1:Shared:={ s with heap:=h₁,toks:=s.toks+(ps.zip (vals ++ ds)).length }
 have ok:zbx n c:=⟨by show A.frames.map _=_;rw [C.frames];rfl,F.kind,C.handled,by have:=C.depth;show A.depth+1+20 * n+20≤1000;lia,by have:=C.units;show A.units+3+100 * n+100≤9900;lia,F.names,fun x val h=>by cases h⟩
 have hIm:∀ a o,Im s.heap ρ (fs.map (·.L)) a o→Im s1.heap ρ c.fr a o:=by
  rintro a o ⟨x,y,z⟩
  refine ⟨hkeep a o x,y,fun r=>?_⟩
  rcases List.mem_cons.mp r with r | r
  ·rw [r,hLn] at x;cases x
  ·exact z r
 have S1:Stt κ c s1 (zaK sc (vs ++ dv)) ρ μ (fun x=>(ps.zip (vals ++ ds)).reverse.lookup x):=by
  refine ⟨I.cons (f:=⟨s.heap.objs.size,.act c.env _⟩) hkeep ⟨hns,rfl,F.kind⟩ hLn hsz,fun i v hv=>?_,by show ρ.length≤μ.length;lia,hgens,hos⟩
  have hrs:=(rs.append (hdv _ ρ))
  have hv':(vs ++ dv)[i]? = some v:=by
   unfold zaK at hv
   rcases Nat.lt_or_ge i (vs ++ dv).length with r | r
   ·rw [List.getElem?_append_left (by simpa using r),List.getElem?_map] at hv
    cases z:(vs ++ dv)[i]? with
    | none=>rw [z] at hv;cases hv
    | some w=>rw [z] at hv;simp at hv;rw [hv]
   ·rw [List.getElem?_append_right (by simpa using r),List.getElem?_replicate] at hv
    split at hv <;> cases hv
  obtain ⟨x,hx,rx⟩:=hrs.get hv'
  have hil:i < ps.length:=by have:=(List.getElem?_eq_some_iff.mp hx).1;rw [List.length_append] at this;lia
  have hp:ps[i]? = some ps[i]:=List.getElem?_eq_getElem hil
  exact ⟨ps[i],.local,x,F.slots i _ hp,zmF hnd hp hx,rx.mono hIm fun x_ x_ e=>e⟩
 exact H c s1 _ rfl rfl rfl ok S1 (fun a o e=>⟨o,hkeep a o e⟩) hIm
theorem zn2 {κ:KK} (W:WF κ) {n:Nat} {f:Addr} {body:List Stmt} {sc:Scope} {q:Str} {ps:List Str} {ds:List Value} (F:ze7 κ f body sc q ps ds) (hcell:∀ x∈sc.names,x.2≠.cell) {dv:List V} (hdv:∀ I ρ,RVs κ.w I ρ dv ds) {G:CF} (hb:CE κ n sc body G) :
  zaU κ (n+1) f (ps.length - ds.length) (kFn sc G dv):=by
 refine ⟨?_⟩
 intro A fs s ρ μ vs vals R C I hgens hos rs hk hsz H
 refine zlk W F hcell hdv C I hgens hos rs hk hsz fun c s1 m hc hnb hr ok S1 hth hIm=>hb.run c hc ok _ μ ρ m s1 _ _ S1 ?_
 rw [zlR] at H
 exact zin ok hnb ⟨[],hr⟩ hgens hos I.len hth hIm ⟨[],(List.append_nil _).symm⟩ (fun a h=>.inl h) H
theorem zbx.call {κ:KK} {n k:Nat} {c:Cx} (ok:zbx n c) (h:k≤n) (m:Str→Option Value):zjr κ k c.A (c.fs m):=
 ⟨ok.frames,ok.handled,by have:=ok.depth;lia,by have:=ok.units;lia⟩
theorem zsy {κ:KK} {c:Cx} {s s₀:Shared} {σ:Loc} {ρ ρ₀:List (List Addr)} {μ:Mem} {m:Str→Option Value} {Q E:Value→Shared→Prop} (S:Stt κ c s σ ρ μ m) (l:zaG c ρ₀ s₀ s) (g:zbj s₀ ρ₀ ρ) (hn:c.nb≤ρ₀.length) {r:RE}
  (P:za6 κ c s₀ ρ₀ E r (zfP κ c s₀ ρ₀ σ m Q)):zlQ κ s (c.fs m) ρ r (wants Q E):=by
 cases r with
 | stuck=>exact P.elim
 | ok v μ'=>
  intro s' val I k1 k2 k3 k4 rv
  have hL:zaG c ρ s s':=⟨k1,k2⟩
  have hIm:=hL.im (.refl (s:=s))
  exact P s' ρ val ⟨I,S.loc.mono hIm fun x_ x_ e=>e,by have:=S.nb;have h1:=S.inv.len;have h2:=I.len;lia,k3.trans S.gens,k4.trans S.os⟩ (l.trans g hL) g rv
 | exc x μ'=>
  intro s' a fp I k1 k2 k3 k4 hf
  have hL:zaG c ρ s s':=⟨k1,k2⟩
  have hl1:=S.inv.len
  have hl2:ρ.length=μ'.length:=by have:=I.len;simpa using this
  have hnb:c.nb≤μ'.length:=by have:=S.nb;lia
  have g1:=g.grow hn
  refine P s' ρ m a fp ⟨I,fun i v h=>by simp at h,by simp;lia,k3.trans S.gens,k4.trans S.os⟩ (l.trans g hL) ⟨fun k hk=>?_,fun b hb=>?_⟩ hnb
  ·rw [List.getElem?_append_left (by lia)];exact g1.low k hk
  ·rw [List.flatten_append] at hb
   rcases List.mem_append.mp hb with hb | hb
   ·exact g1.new b hb
   ·exact .inr (l.1.none (hf b (by simpa using hb)))
theorem Inv.size {κ:KK} {c:Cx} {s:Shared} {σ:Loc} {ρ:List (List Addr)} {μ:Mem} {m:Str→Option Value} (S:Stt κ c s σ ρ μ m):κ.B.objs.size≤s.heap.objs.size:=by
 have h1:=S.inv.newF ⟨c.L,.act c.env m⟩ (by simp [Cx.fs])
 have h2:=S.inv.lt c.L (List.mem_append_right _ (by simp [Cx.fs]))
 exact Nat.le_trans h1 (Nat.le_of_lt h2)
noncomputable def zaw (Φ:List V→Mem→RE) (k:Nat) (Fs:List EF):EF:=fun σ μ=>(zbQ Fs σ μ).bind fun vs μ=>if vs.length=k then Φ vs μ else .stuck
theorem zkg {κ:KK} {n nF:Nat} {c:Cx} (ok:zbx n c) {f:Addr} {k:Nat} {Φ:List V→Mem→RE} (F:zaU κ nF f k Φ) (hn:nF≤n) {s s₀:Shared} {σ:Loc} {ρ ρ₀:List (List Addr)} {μ:Mem} {m:Str→Option Value} {Q E:Value→Shared→Prop} (S:Stt κ c s σ ρ μ m) (l:zaG c ρ₀ s₀ s) (g:zbj s₀ ρ₀ ρ) (hnb:c.nb≤ρ₀.length)
  {vs:List V} {vals:List Value} (rs:RVs κ.w (Im s.heap ρ c.fr) ρ vs vals) (hk:vs.length=k) (P:za6 κ c s₀ ρ₀ E (Φ vs μ) (zfP κ c s₀ ρ₀ σ m Q)):wpAny (model pg κ.w) c.A (call (.ref f) vals) Q E s:=
 wpAny_call (F.run c.A (c.fs m) s ρ μ vs vals _ (ok.call hn m) S.inv S.gens S.os rs hk (Inv.size S) (zsy S l g hnb P))
noncomputable def zgo (κ:KK) (f:Addr):Prop:=∃ o fd,κ.B.get? f=some o∧o.data = .func fd
theorem ze7.isFn {κ:KK} {f:Addr} {body:List Stmt} {sc:Scope} {q:Str} {ps:List Str} {ds:List Value} (F:ze7 κ f body sc q ps ds):zgo κ f:=by
 obtain ⟨o,fd,ho,hd,_⟩:=F.obj
 exact ⟨o,fd,ho,hd⟩
theorem zqy {κ:KK} (W:WF κ) {n nF:Nat} {sc:Scope} {x:Str} {p pos:Pos} {f:Addr} {k:Nat} {Φ:List V→Mem→RE} {es:List Expr} {Fs:List EF} (F:zaU κ nF f k Φ) (hF:zgo κ f) (hn:nF≤n) (hx:κ.mg x=some (.ref f)) (hk:sc.names.lookup x=some .globalImplicit) (hd:(x == ("__debug__":Str))=false)
  (h:SEl κ n sc es Fs):SE κ n sc (.Call (.Name x p) es [] pos) (zaw Φ k Fs):=by
 refine ⟨?_⟩
 rintro c rfl ok σ μ ρ m s Q E S H
 obtain ⟨o,fd,ho,hfd⟩:=hF
 refine wpAny_Call_ofName (ldG S.fr W.glob hx ?_ ok.kind hk hd)
 cases h with
 | nil=>
  have ho':=S.inv.keep _ _ ho
  refine callWith_meth0 hfd ho' ?_
  replace H:za6 κ c s ρ E (if ([]:List V).length=k then Φ [] μ else .stuck) _:=H
  split at H
  ·rename_i hk'
   exact zkg ok F hn S .refl .refl S.nbρ .nil hk' H
  ·exact H.elim
 | cons he h1 h2=>
  refine callWith_def hfd ((SEl.cons he h1 h2).next rfl ok S .refl .refl S.nbρ H fun vs μ' s' ρ' vals S' l' g' x_ x_ rs x_ H'=>⟨S'.inv.keep _ _ ho,?_⟩) (he _ _)
  split at H'
  ·rename_i hk'
   exact zkg ok F hn S' l' g' S.nbρ rs hk' H'
  ·exact H'.elim
structure zlS (κ:KK) (name:Str) (f:Addr):Prop where
 plain:plainGet κ.K κ.C name=true
 find:findIn κ.K (.ref κ.C) name=some (some (.ref f))
 fn:isFn κ.K (.ref f)=true
 own:name∉κ.names
noncomputable def zlT (v:V) (μ:Mem):Bool:=match v with
 | .ref k=>match μ[k]? with
  | some (.inst _)=>true
  | _=>false
 | _=>false
noncomputable def zaS (Φ:List V→Mem→RE) (k:Nat) (F:EF) (Fs:List EF):EF:=fun σ μ=>(F σ μ).bind fun r μ=>if zlT r μ then (zbQ Fs σ μ).bind fun vs μ=>if vs.length+1=k then Φ (r :: vs) μ else .stuck else .stuck
set_option tactic.hygienic true in
theorem zuh {κ:KK} (W:WFC κ) {n nF:Nat} {sc:Scope} {o:Expr} {name:Str} {apos pos:Pos} {f:Addr} {k:Nat} {Φ:List V→Mem→RE} {es:List Expr} {F:EF} {Fs:List EF} (M:zlS κ name f) (G:zaU κ nF f k Φ) (hF:zgo κ f) (hn:nF≤n) (he:MEq o name apos es pos)
  (h:SE κ n sc o F) (hs:SEl κ n sc es Fs):SE κ n sc (.Call (.Attribute o name apos) es [] pos) (zaS Φ k F Fs):=by
 refine ⟨?_⟩
 rintro c rfl ok σ μ ρ m s Q E S H
 obtain ⟨ob,fd,ho,hfd⟩:=hF
 obtain ⟨pl,hpl⟩:=he c.env
 refine MethodCall_ (he:=hpl) (h.next rfl ok S .refl .refl S.nbρ H fun r μ1 s1 ρ1 rv S1 l1 g1 x_ x_ rr H1=>?_)
 split at H1
 rotate_left
 ·exact H1.elim
 rename_i ht
 unfold zlT at ht
 split at ht
 rotate_left
 ·cases ht
 rename_i j
 split at ht
 rotate_left
 ·cases ht
 rename_i fs hj
 obtain ⟨x,dx,es',n',vs',rfl,hk',hx,hdx,hents,hvs,hlen⟩:=zmE S1 rr hj
 refine method_inst S1.fr W.inK ⟨hx,rfl,rfl,hdx⟩ M.plain M.find M.fn (zsv hents fun q=>M.own (List.mem_of_mem_take q)).1 ?_
 cases hs with
 | nil=>
  refine callWith_meth0 hfd (S1.inv.keep _ _ ho) ?_
  replace H1:za6 κ c s ρ E (if ([]:List V).length+1=k then Φ [.ref j] μ1 else .stuck) _:=H1
  split at H1
  ·rename_i hk''
   exact zkg ok G hn S1 l1 g1 S.nbρ (.cons rr .nil) hk'' H1
  ·exact H1.elim
 | cons he' h1 h2=>
  refine callWith_meth hfd ho ((SEl.cons he' h1 h2).next rfl ok S1 l1 g1 S.nbρ H1 fun vs μ2 s2 ρ2 vals S2 l2 g2 i2 p2 rs x_ H2=>⟨S2.inv.keep,?_⟩) (he' _ _)
  split at H2
  ·rename_i hk''
   exact zkg ok G hn S2 l2 g2 S.nbρ (.cons (rr.mono i2 p2) rs) (by simpa using hk'') H2
  ·exact H2.elim
structure zui (κ:KK) (fI:Addr):Prop where
 makes:makesIn κ.K κ.C=true
 init:findIn κ.K (.ref κ.C) "__init__"=some (some (.ref fI))
 fn:isFn κ.K (.ref fI)=true
 keep:keepIn κ.K (.ref κ.C)=true
noncomputable def zmG (Φ:List V→Mem→RE) (k:Nat) (Fs:List EF):EF:=fun σ μ=>(zbQ Fs σ μ).bind fun vs μ=>if vs.length+1=k then match Φ (.ref μ.length :: vs) (μ ++ [.inst []]) with
  | .ok (.d .none) μ'=>.ok (.ref μ.length) μ'
  | _=>.stuck
 else .stuck
theorem zxG {κ:KK} (W:WFC κ) {n nF:Nat} {sc:Scope} {x:Str} {p pos:Pos} {fI:Addr} {k:Nat} {Φ:List V→Mem→RE} {e:Expr} {es:List Expr} {Fs:List EF} (C:zui κ fI) (G:zaU κ nF fI k Φ) (hn:nF+1≤n) (hx:κ.mg x=some (.ref κ.C)) (hk:sc.names.lookup x=some .globalImplicit) (hd:(x == ("__debug__":Str))=false)
  (h:SEl κ n sc (e :: es) Fs):SE κ n sc (.Call (.Name x p) (e :: es) [] pos) (zmG Φ k Fs):=by
 refine ⟨?_⟩
 rintro c rfl ok σ μ ρ m s Q E S H
 refine wpAny_Call_ofName (ldG S.fr W.glob hx ?_ ok.kind hk hd)
 have hs:∃ he:(∀ rest env,starEach (e :: rest) env=(false,eval e env) :: starEach rest env),∃ Fs',SEl κ n c.sc es Fs':=by
  cases h with | cons a b c=>exact ⟨a,_,c⟩
 obtain ⟨he,Fs',hes⟩:=hs
 refine callWith_K W.inK C.keep (h.next rfl ok S .refl .refl S.nbρ H fun vs μ1 s1 ρ1 vals S1 l1 g1 x_ x_ rs x_ H1=>⟨W.inK.keeps S1.inv.keep,?_⟩) (he _ _) hes.plain
 split at H1
 rotate_left
 ·exact H1.elim
 rename_i hk'
 have hX:κ.K.In s1.heap:=W.inK.keeps S1.inv.keep
 obtain ⟨hh,g,d,t,os⟩:=s1
 refine wpAny_call (make_core (makes_of hX C.makes) (looks_findIn hX C.init) (fun self=>bind_fn hX self (beq_iff_eq.mp C.fn)) (.inl rfl) ?_)
 have hne:hh.objs.size≠hh.objs.size+1:=Nat.ne_of_lt (Nat.lt_succ_self _)
 obtain ⟨S2,l2,g2⟩:=S1.open (s':=⟨(hh.push emptyDict).push (instObj κ.C hh.objs.size),g,d,t,os⟩) (l:=[hh.objs.size+1,hh.objs.size]) (o:=.inst [])
  (fun x_ x_ e=>Heap.get?_push_of_some _ (Heap.get?_push_of_some _ e)) rfl rfl (by simp) (by
   intro a ha
   simp at ha
   rcases ha with rfl | rfl
   ·exact zbu (Nat.le_succ _)
   ·exact zbu (Nat.le_refl _))
  (.inst (vs:=[]) (es:=[]) (n:=0) (by
   have:=Heap.get?_push_size (hh.push emptyDict) (o:=instObj κ.C hh.objs.size) rfl
   rwa [Heap.size_push] at this) (Heap.get?_push_of_some _ (Heap.get?_push_size _ rfl)) .nil .nil (Nat.zero_le _))
 have r0:RV κ.w (Im ((hh.push emptyDict).push (instObj κ.C hh.objs.size)) (ρ1 ++ [[hh.objs.size+1,hh.objs.size]]) c.fr) (ρ1 ++ [[hh.objs.size+1,hh.objs.size]]) (.ref μ1.length) (.ref (hh.objs.size+1)):=
  .ref (l:=[hh.objs.size]) (by rw [← S1.inv.len,List.getElem?_append_right (Nat.le_refl _)];simp)
 have CC:zjr κ nF (c.A.under (.builtin "type.__call__" ⟨.ref κ.C :: vals,[]⟩)) (c.fs m):=by
  refine ⟨ok.frames,ok.handled,?_,?_⟩
  ·have:=ok.depth
   show c.A.depth+1+20 * nF+20≤1000
   lia
  ·have:=ok.units
   have e1:(c.A.under (.builtin "type.__call__" ⟨.ref κ.C :: vals,[]⟩)).units=c.A.units+Code.cUnits (.builtin "type.__call__" ⟨.ref κ.C :: vals,[]⟩):=rfl
   have e2:Code.cUnits (.builtin "type.__call__" ⟨.ref κ.C :: vals,[]⟩)≤10:=by
    show 1+3 * 0≤10
    decide
   rw [e1];lia
 refine G.run _ (c.fs m) _ (ρ1 ++ [[hh.objs.size+1,hh.objs.size]]) (μ1 ++ [.inst []]) (.ref μ1.length :: vs) (.ref (hh.objs.size+1) :: vals) _ CC S2.inv S2.gens S2.os (.cons r0 (rs.mono (l2.im g2) g2.get)) (by simpa using hk') (Inv.size S2) ?_
 cases q:Φ (.ref μ1.length :: vs) (μ1 ++ [.inst []]) with
 | stuck=>rw [q] at H1;exact H1.elim
 | exc x μ'=>rw [q] at H1;exact H1.elim
 | ok v μ'=>
  rw [q] at H1
  cases v with
  | ref k=>exact H1.elim
  | d z=>
   cases z with
   | none=>
    intro s' val I k1 k2 k3 k4 rv
    have:val = .none:=by cases rv.d_inv;rfl
    subst this
    refine ⟨rfl,?_⟩
    have hL:zaG c (ρ1 ++ [[hh.objs.size+1,hh.objs.size]]) _ s':=⟨k1,k2⟩
    have hIm:=hL.im (.refl (s:=⟨(hh.push emptyDict).push (instObj κ.C hh.objs.size),g,d,t,os⟩))
    exact H1 s' _ _ ⟨I,S2.loc.mono hIm fun x_ x_ e=>e,by have:=S2.nb;have h1:=S2.inv.len;have h2:=I.len;lia,k3.trans S2.gens,k4.trans S2.os⟩ ((l1.trans g1 l2).trans (g1.trans g2 l1.1) hL) (g1.trans g2 l1.1) (r0.mono hIm fun x_ x_ e=>e)
   | _=>exact H1.elim
section
open PySem.Calls Builtin Builtin.ObjectAttr
noncomputable def zdy (F1 F2:EF):CF:=fun σ μ=>(F1 σ μ).bind fun v1 μ=>(F2 σ μ).bind fun v2 μ=>v1.gI.elim .stuck fun r=>v2.gS.elim .stuck fun w=>.exc (.asm r w) μ
noncomputable def zxH {α:Type} (l:List V) (f:V→V→RX α):RX α:=List.casesOn (motive:=fun _=>RX α) l .stuck fun a l=>List.casesOn (motive:=fun _=>RX α) l .stuck fun b l=>List.casesOn (motive:=fun _=>RX α) l (f a b) fun _ _=>.stuck
set_option genSizeOf false
set_option genInjectivity false
structure RF (κ:KK) (fX:Addr):Type where
 sc:Scope
 qn:Str
 p1:Pos
 p2:Pos
 p3:Pos
 p4:Pos
 p5:Pos
 p6:Pos
 p7:Pos
 p8:Pos
 F:ze7 κ fX [.Assign [.Attribute (.Name zd8 p1) zcn p2] (.Name zcn p3) p4,.Assign [.Attribute (.Name zd8 p5) zbM p6] (.Name zbM p7) p8] sc qn [zd8,zcn,zbM] []
 hcell:∀ x∈sc.names,x.2≠.cell
structure RD (κ:KK):Type where
 fX:Addr
 nm:Str
 q:Str
 N:Addr
 bs:List Value
 bm:List Value
 sn:List Str
 sub:List Value
 ab:Bool
 col:Option Bool
 dd:Option Addr
 k0:Option Value
 k1:Option Value
 k2:Option Value
 k3:Option Value
 k5:Option Value
 mN:Str→Option Value
 hC:κ.B.get? κ.X=some (excClassObj nm q κ.X N bs bm true sn sub ab col dd k0 k1 k2 k3 k5 "Exception.__new__")
 hN:κ.B.Ns N mN
 hi:mN "__init__"=some (.ref fX)
 T:OwnTail κ.B bmE bm
 href:∀ self,refuseLoop self "__setattr__" (.ref κ.X :: bm)=pure ()
 fn:∃ oI,κ.B.get? fX=some oI∧oI.cls = .type "function"
 F:RF κ fX
structure zeJ (κ:KK):Prop where
 obj:Nonempty (RD κ)
 keep:keepIn κ.K (.ref κ.X)=true
 sa:findIn κ.K (.ref κ.X) "__setattr__"=some (some (.builtin "object.__setattr__"))
 dict:hasDictIn κ.K κ.X=true
 ga:findIn κ.K (.ref κ.X) "__getattribute__"=some (some (.builtin "BaseException.__getattribute__"))
 gg:findIn κ.K (.ref κ.X) "__getattr__"=some none
 a0:findIn κ.K (.ref κ.X) zcn=some none
 a1:findIn κ.K (.ref κ.X) zbM=some none
 t0:takerIn κ.K κ.X zcn=some none
 t1:takerIn κ.K κ.X zbM=some none
 xn:κ.xnames=[zcn,zbM]
section
open Sem (wp)
variable {prog:Program} {w:World} {A:Around} {E:Value→Shared→Prop} {h:Heap} {g:Array GenState} {d:Drawn} {t:Nat} {os:OsState}
variable {nm q:Str} {C N:Addr} {bs bm bmB:List Value} {hdct:Bool} {sn:List Str} {sub:List Value} {ab:Bool} {col:Option Bool} {dd:Option Addr} {k0 k1 k2 k3 k5:Option Value} {B newId initId:String}
theorem zrj (F:ExcBaseFacts B newId initId bmB) (T:OwnTail h bmB bm) {mN:Str→Option Value} {args:List Value} {fI:Addr} {oI:Obj} {Q:Fin→Shared→Prop}
  (hC:h.get? C=some (excClassObj nm q C N bs bm hdct sn sub ab col dd k0 k1 k2 k3 k5 newId)) (hn:h.Ns N mN) (hi:mN "__init__"=some (.ref fI))
  (hfI:h.get? fI=some oI) (hfc:oI.cls = .type "function") (hz:args.length≤sizeLine)
  (hq:∀ h' e,Heap.MadeExcOf h h' e (.ref C) args→wpAny (model prog w) A (call (.ref fI) (.ref e :: args)) (fun r s'=>r = .none∧Q (.done (.ret (.ref e))) s') E ⟨h',g,d,t,os⟩) :
  wpAny (model prog w) A (Builtin.«type.__call__» ⟨.ref C :: args,[]⟩) Q E ⟨h,g,d,t,os⟩:=by
 repeat (first | with_reducible refine wpAny_loadPart_at hC ?_ | with_reducible refine wpAny_madeBy_exc hC ?_ | wp_step)
 refine codeAny_call_builtin_code (Code.quiet_builtin _ F.quiet) (wpAny_check_new_subT F T hC ?_)
 refine codeAny_exc_new_subT F T hC ?_ hz
 show wpAny _ _ _ _ _ _
 generalize hH:(h.push { cls:=.type "tuple",data:=.seq args.toArray }).push { cls:=.ref C,data:=.fields #[.ref h.objs.size,.none,.none,.none,.bool false,.none] }=H
 have keep:∀ b o,h.get? b=some o→H.get? b=some o:=fun b o e=>by subst hH;exact Heap.get?_push_of_some _ (Heap.get?_push_of_some _ e)
 have hget:H.get? (h.objs.size+1)=some { cls:=.ref C,data:=.fields #[.ref h.objs.size,.none,.none,.none,.bool false,.none] }:=by subst hH;heap_get
 have htup:H.get? h.objs.size=some { cls:=.type "tuple",data:=.seq args.toArray }:=by subst hH;exact Heap.get?_push_of_some _ (Heap.get?_push_at rfl rfl)
 have hcC:(Value.ref C :: bm).contains (.ref C)=true:=by simp
 have hC':=keep _ _ hC
 have hfI':=keep _ _ hfI
 unfold isInstance
 repeat (first | with_reducible refine wpAny_loadPart_at hget ?_ | (with_reducible refine wpAny_isSubtype_exc hC' ?_;rw [hcC]) | wp_step)
 show wpAny _ _ (typeLookup (.ref C) _) _ _ _
 refine wpAny_typeLookup_tail hC' (hn.keeps keep) (T.keeps keep) F.mroIs F.init.lookup ?_
 rw [hi]
 refine wpAny_holding (wpAny_bind ?_)
 unfold bindSpecial
 refine wpAny_bind (wpAny_typeOf (T:="function") ⟨_,hfI',hfc⟩ ?_)
 rw [if_pos (by decide)]
 refine wpAny_pure (wpAny_bind (wpAny_mono (hq _ (h.objs.size+1) ⟨keep,Heap.get?_none_of_le (Nat.le_succ _),h.objs.size,hget,Heap.get?_none_of_le (Nat.le_refl _),htup⟩) (fun r s' hr=>?_) fun x_ x_ x=>x))
 obtain ⟨rfl,hQ⟩:=hr
 wp_walk
 exact hQ
theorem zrk (F:ExcBaseFacts B newId initId bmB) (T:OwnTail h bmB bm) {mN:Str→Option Value} {args:List Value} {fI:Addr} {oI:Obj} {Q:Value→Shared→Prop}
  (hC:h.get? C=some (excClassObj nm q C N bs bm hdct sn sub ab col dd k0 k1 k2 k3 k5 newId)) (hn:h.Ns N mN) (hi:mN "__init__"=some (.ref fI))
  (hfI:h.get? fI=some oI) (hfc:oI.cls = .type "function") (hz:args.length≤sizeLine)
  (hq:∀ h' e,Heap.MadeExcOf h h' e (.ref C) args→
   wpAny (model prog w) (A.under (.builtin "type.__call__" ⟨.ref C :: args,[]⟩)) (call (.ref fI) (.ref e :: args)) (fun r s'=>r = .none∧Q (.ref e) s') E ⟨h',g,d,t,os⟩) :
  wpAny (model prog w) A (call (.ref C) args) Q E ⟨h,g,d,t,os⟩:=by
 have f1:=tc_lookup
 have f2:=tc_bind (.ref C)
 have hT:(⟨h,g,d,t,os⟩:Shared).TypeIs (.ref C) "type":=⟨_,hC,rfl⟩
 refine wpAny_call (codeAny_of_tree ?_)
 show wpAny _ _ (callAny (.ref C) _) _ _ _
 repeat (any_goals (first | assumption | with_reducible refine wpAny_loadPart_at hC ?_ | wp_step))
 refine ⟨rfl,?_⟩
 exact codeAny_call_builtin_at (Code.quiet_builtin _ (by decide +kernel)) entry_typeCall (wpAny_check_type_call_sub hC (zrj F T hC hn hi hfI hfc hz hq))
theorem zsz {env:Env} {s:Shared} {x:Sem Value} {Q:Flow→Shared→Prop} (hbase:bm.contains (.type "BaseException")=true) (hh:A.handled=none)
  (H:wpAny (model prog w) A x (fun v s₁=>∃ e t dx,v = .ref e∧s₁.heap.get? C=some (excClassObj nm q C N bs bm hdct sn sub ab col dd k0 k1 k2 k3 k5 newId)∧
   s₁.heap.get? e=some { cls:=.ref C,dict:=dx,data:=.fields #[.ref t,.none,.none,.none,.bool false,.none] }∧E (.ref e) s₁) E s) :
  wpAny (model prog w) A (raiseStmt env (some x) none) Q E s:=by
 have hcB:(Value.ref C :: bm).contains (.type "BaseException")=true:=by rw [List.contains_cons,hbase,Bool.or_true]
 unfold raiseStmt
 refine wpAny_bind (wpAny_mono H (fun v s₁ h₁=>?_) fun x_ x_ x=>x)
 obtain ⟨e,t,dx,rfl,hC,he,hE⟩:=h₁
 obtain ⟨hp,g,d,tk,os⟩:=s₁
 repeat (first | with_reducible refine wpAny_loadPart_at he ?_ | with_reducible refine wpAny_loadPart_at hC ?_ | (with_reducible refine wpAny_isSubtype_exc hC ?_;rw [hcB]) | wp_step)
 exact wpAny_raiseNew_none hh hE
end
section
variable {κ:KK} {A:Around} {E:Value→Shared→Prop} {s:Shared} {e:Addr} {vs:Array Value} {name:Str} {v:Value} {Q:Unit→Shared→Prop}
theorem zqz (X:κ.K.In s.heap) (R:zeJ κ) (B:∀ b o,κ.B.get? b=some o→s.heap.get? b=some o) {ox:Obj} {od:Option Obj} (I:InstAt s.heap e ox κ.X od)
  (ht:takerIn κ.K κ.X name=some none)
  (H:∀ b,wpAny (model pg κ.w) A.in1 (storeInOwnDict (.ref e) (.ref κ.X) (.str name s.toks) name v b) (fun fin s'=>fin = .done (.ret .none)∧Q () s') E { s with toks:=s.toks+1 }) :
  wpAny (model pg κ.w) A (setAttr (.ref e) name v) Q E s:=by
 obtain ⟨D⟩:=R.obj
 have SF:=PySem.F.store_object
 refine set_plain X I R.sa ?_
 have hC':=B _ _ D.hC
 have sub1:Looks (model pg κ.w) s.heap (isSubtype (.ref κ.X) (.type "object")) true:=by
  intro A Q E s' k q
  have hc:(Value.ref κ.X :: D.bm).contains (.type "object")=true:=by rw [List.contains_cons,D.T.hasType (b:=true) (by decide),Bool.or_true]
  obtain ⟨h',g',d',t',o'⟩:=s'
  refine wpAny_isSubtype_exc (k _ _ hC') ?_
  rw [hc];exact q
 have hm:Looks (model pg κ.w) s.heap (mroOf (.ref κ.X)) (.ref κ.X :: D.bm):=by
  intro A Q E s' k q
  obtain ⟨h',g',d',t',o'⟩:=s'
  exact wpAny_mroOf_exc (k _ _ hC') q
 refine codeAny_call_builtin SF.slot.plain SF.entry (@check_slot (model pg κ.w) _ _ _ "object.__setattr__" "object" "__setattr__" (.ref e) [.str name s.toks,v] [] _ SF.kind SF.split (I.type.andThen sub1) (SF.args (.ref e) (.str name s.toks) v) ?_)
 obtain ⟨attr,ha,hr⟩:=Option.bind_eq_some_iff.mp ht
 have L3:Looks (model pg κ.w) s.heap (storeTaker? attr) none:=by
  cases attr with
  | none=>exact .now
  | some a=>
   obtain ⟨b,hb,hb'⟩:=Option.map_eq_some_iff.mp hr
   refine (looks_takesIn X hb).andThen ?_
   cases b
   ·exact .now
   ·cases hb'
 rw [osa_eq,refuse_eq]
 refine wpAny_bind (wpAny_bind (I.type _ _ _ _ (fun x_ x_ e=>e) (wpAny_bind (hm _ _ _ _ (fun x_ x_ e=>e) ?_))))
 rw [D.href]
 refine wpAny_pure (wpAny_bind (I.type _ _ _ _ (fun x_ x_ e=>e) (wpAny_bind (looks_findIn X ha _ _ _ _ (fun x_ x_ e=>e) (wpAny_bind (L3 _ _ _ _ (fun x_ x_ e=>e) ?_))))))
 refine wpAny_mono (H _) (fun fin s' z=>?_) fun x_ x_ z=>z
 obtain ⟨rfl,z⟩:=z
 exact z
theorem zow {dx:Addr} {es:List DictEntry} {n:Nat} {tk:Tok} {s:Shared} {Q:Fin→Shared→Prop} (hd:s.heap.get? dx=some (dictOf es n)) (he:(es.any fun e=>e.refKey)=false) (hz:(putL name (PyData.keyHash κ.w.params name) (.str name s.toks) v es).length≤1000)
  (H:∀ h',(∀ b o,b≠dx→s.heap.get? b=some o→h'.get? b=some o)→h'.get? dx=some (dictOf (putL name (PyData.keyHash κ.w.params name) (.str name s.toks) v es) (putN name es n))→Q (.done (.ret .none)) { s with heap:=h',toks:=s.toks+1 }) :
  wpAny (model pg κ.w) A (storeInDict dx (.str name tk) name v) Q E s:=by
 unfold storeInDict newKeyGuard
 refine wpAny_bind (wpAny_pure (wpAny_bind ?_))
 unfold nsSet
 refine wpAny_bind (wpAny_bind (wpAny_askSetting (wpAny_pure (wpAny_bind (wpAny_mkText (wpAny_bind (wpAny_loadPart hd ?_)))))))
 dsimp only [dictOf]
 have c:(!es.toArray.any (·.key.isStr name) && es.toArray.any (·.refKey))=false:=by
  rw [← Array.any_toList (p:=fun e:DictEntry=>e.refKey)]
  simp only [he,Bool.and_false]
 rw [aRefKeyMayBeTheName_at,c]
 have hfr:(dictOf (putL name (PyData.keyHash κ.w.params name) (.str name s.toks) v es) (putN name es n)).isFreed=false:=rfl
 have hs:(s.heap.update dx (Obj.putName name (PyData.keyHash κ.w.params name) (.str name s.toks) v)).get? dx=some (dictOf (putL name (PyData.keyHash κ.w.params name) (.str name s.toks) v es) (putN name es n)):=by
  rw [Heap.get?_update_self _ hd (by rw [putName_dict];exact hfr),putName_dict]
 refine wpAny_updatePart hd ?_
 refine wpAny_bind (wpAny_lookBehind hs (pastItsLine_dict (by rw [List.size_toArray,sizeLine_eq];lia)) ?_)
 exact wpAny_pure (H _ (fun b o hb e=>(Heap.get?_update_other _ _ (Ne.symm hb)).trans e) hs)
theorem zuj (X:κ.K.In s.heap) (R:zeJ κ) (B:∀ b o,κ.B.get? b=some o→s.heap.get? b=some o) (hx:s.heap.get? e=some { cls:=.ref κ.X,dict:=none,data:=.fields vs,slots:=#[] }) (ht:takerIn κ.K κ.X name=some none)
  (H:∀ h' tk tk',(∀ b o,b≠e→s.heap.get? b=some o→h'.get? b=some o)→h'.get? e=some { cls:=.ref κ.X,dict:=some s.heap.objs.size,data:=.fields vs,slots:=#[] }→
   h'.get? s.heap.objs.size=some (dictOf [⟨PyData.keyHash κ.w.params name,.str name tk,v⟩] 1)→Q () { s with heap:=h',toks:=tk' }):wpAny (model pg κ.w) A (setAttr (.ref e) name v) Q E s:=by
 refine zqz X R B (od:=none) ⟨hx,rfl,rfl,trivial⟩ ht fun b=>?_
 obtain ⟨D⟩:=R.obj
 have hC':=B _ _ D.hC
 have hxs:e≠s.heap.objs.size:=Nat.ne_of_lt (Heap.lt_size hx)
 have hx1:(s.heap.push { cls:=.type "dict",data:=.dict #[] }).get? e=_:=Heap.get?_push_of_some _ hx
 generalize hu:((s.heap.push { cls:=.type "dict",data:=.dict #[] }).update e fun o=>{ o with dict:=some s.heap.objs.size })=h2
 have g1:h2.get? e=some { cls:=.ref κ.X,dict:=some s.heap.objs.size,data:=.fields vs,slots:=#[] }:=by subst hu;exact Heap.get?_update_self _ hx1 rfl
 have g2:h2.get? s.heap.objs.size=some (dictOf [] 0):=by subst hu;exact (Heap.get?_update_other _ _ hxs).trans (Heap.get?_push_at rfl rfl)
 have g3:∀ b o,b≠e→s.heap.get? b=some o→h2.get? b=some o:=fun b o hb z=>by subst hu;exact (Heap.get?_update_other _ _ (Ne.symm hb)).trans (Heap.get?_push_of_some _ z)
 refine wpAny_bind (wpAny_pure (wpAny_bind ?_))
 show wpAny _ _ (instanceDict e true) _ _ _
 unfold instanceDict
 refine wpAny_bind (wpAny_loadPart hx ?_)
 dsimp only
 unfold classData
 refine wpAny_bind (wpAny_bind (wpAny_load hC' (wpAny_pure ?_)))
 dsimp only
 simp only [Bool.not_true,Bool.false_eq_true,if_false,Bool.or_false,typeHasDict]
 refine wpAny_bind (wpAny_alloc ?_)
 refine wpAny_bind (wpAny_update hx1 ?_)
 refine wpAny_pure ?_
 dsimp only
 rw [hu]
 refine zow (κ:=κ) (s:={ s with heap:=h2,toks:=s.toks+1 }) g2 rfl (show 1≤1000 by decide) fun h' k1 k2=>⟨rfl,?_⟩
 exact H h' _ _ (fun b o hb z=>k1 b o (Nat.ne_of_lt (Heap.lt_size z)) (g3 b o hb z)) (k1 e _ hxs g1) k2
theorem zuk (X:κ.K.In s.heap) (R:zeJ κ) (B:∀ b o,κ.B.get? b=some o→s.heap.get? b=some o) {dx:Addr} {es:List DictEntry} {n:Nat} (hx:s.heap.get? e=some { cls:=.ref κ.X,dict:=some dx,data:=.fields vs,slots:=#[] }) (hd:s.heap.get? dx=some (dictOf es n))
  (he:(es.any fun e=>e.refKey)=false) (hz:∀ t,(putL name (PyData.keyHash κ.w.params name) (.str name t) v es).length≤1000) (ht:takerIn κ.K κ.X name=some none)
  (H:∀ h' tk tk',(∀ b o,b≠dx→s.heap.get? b=some o→h'.get? b=some o)→h'.get? dx=some (dictOf (putL name (PyData.keyHash κ.w.params name) (.str name tk) v es) (putN name es n))→Q () { s with heap:=h',toks:=tk' }) :
  wpAny (model pg κ.w) A (setAttr (.ref e) name v) Q E s:=by
 refine zqz X R B (od:=some (dictOf es n)) ⟨hx,rfl,rfl,hd⟩ ht fun b=>?_
 obtain ⟨D⟩:=R.obj
 have hC':=B _ _ D.hC
 refine wpAny_bind (wpAny_pure (wpAny_bind ?_))
 show wpAny _ _ (instanceDict e true) _ _ _
 unfold instanceDict
 refine wpAny_bind (wpAny_loadPart hx ?_)
 dsimp only
 unfold classData
 refine wpAny_bind (wpAny_bind (wpAny_load hC' (wpAny_pure ?_)))
 dsimp only
 simp only [Bool.not_true,Bool.false_eq_true,if_false]
 refine wpAny_pure ?_
 dsimp only
 exact zow (κ:=κ) (s:={ s with toks:=s.toks+1 }) hd he (hz _) fun h' k1 k2=>⟨rfl,H h' _ _ k1 k2⟩
end
theorem zxI {P:Params} {a b:Value} {t u:Tok}:putL zbM (PyData.keyHash P zbM) (.str zbM u) b [⟨PyData.keyHash P zcn,.str zcn t,a⟩]=[⟨PyData.keyHash P zcn,.str zcn t,a⟩,⟨PyData.keyHash P zbM,.str zbM u,b⟩]:=by
 have h:(Value.str zcn t).isStr zbM=false:=by rw [zeI];decide
 unfold putL
 simp only [h,Bool.false_eq_true,if_false]
 rfl
theorem zv6 {κ:KK} (W:WFC κ) (R:zeJ κ) {fX:Addr} {p1 p2 p3 p4 p5 p6 p7 p8:Pos} {sc:Scope} {qn:Str}
  (F:ze7 κ fX [.Assign [.Attribute (.Name zd8 p1) zcn p2] (.Name zcn p3) p4,.Assign [.Attribute (.Name zd8 p5) zbM p6] (.Name zbM p7) p8] sc qn [zd8,zcn,zbM] []) (hcell:∀ x∈sc.names,x.2≠.cell)
  {A:Around} {s:Shared} {e:Addr} {vs:Array Value} {v1 v2:Value} {Q E:Value→Shared→Prop} (hd:A.depth < 1000) (B:∀ b o,κ.B.get? b=some o→s.heap.get? b=some o) (hsz:κ.B.objs.size≤s.heap.objs.size) (hne:κ.B.get? e=none)
  (hx:s.heap.get? e=some { cls:=.ref κ.X,dict:=none,data:=.fields vs,slots:=#[] })
  (H:∀ h' tk dx es n,(∀ b o,b≠e→s.heap.get? b=some o→h'.get? b=some o)→s.heap.get? dx=none→h'.get? e=some { cls:=.ref κ.X,dict:=some dx,data:=.fields vs,slots:=#[] }→h'.get? dx=some (dictOf es n)→zeE κ.w.params κ.xnames [v1,v2] es→
   Q .none { s with heap:=h',toks:=tk }):wpAny (model pg κ.w) A (call (.ref fX) [.ref e,v1,v2]) Q E s:=by
 obtain ⟨o,fd,ho,hdat,e1,e2,e3,e4,e5,e6,hcd,hbind⟩:=F.obj
 refine wpAny_call (codeAny_call_function hd (B _ _ ho) hdat (by rw [e1];exact F.co) (by rw [e1];exact F.gen) e5 (e6▸hcd.keeps B) ?_)
 refine hbind [.ref e,v1,v2] rfl _ _ _ _ B ?_
 rw [e1,e2,e3,e4,e6]
 have hloc:∀ x∈[zd8,zcn,zbM].zip ([.ref e,v1,v2] ++ ([]:List Value)),sc.names.lookup x.1=some .local:=fun x hx=>by
  obtain ⟨i,hi⟩:=List.getElem?_of_mem hx
  obtain ⟨h1,_⟩:=(List.getElem?_zip_eq_some).mp hi
  exact zbq F.names (F.slots i _ h1)
 refine wpAny_newFunctionEnv hcell hloc (fun h₁ hns hsb=>⟨(W.lim.keeps B).fresh _ hsb,?_⟩) F.kind
 show codeAny _ A (.func _ (envOf qn sc s.heap.objs.size fX fd.code)) _ _
 refine codeAny_func ?_
 have hLn:∀ b o,s.heap.get? b=some o→b≠s.heap.objs.size:=fun b o z=>Nat.ne_of_lt (Heap.lt_size z)
 have keep1:∀ b o,s.heap.get? b=some o→h₁.get? b=some o:=fun b o z=>hsb.extBut b o (hLn b o z) (Heap.get?_push_of_some _ z)
 have m0:([zd8,zcn,zbM].zip ([.ref e,v1,v2] ++ ([]:List Value))).reverse.lookup zd8=some (.ref e):=by rfl
 have m1:([zd8,zcn,zbM].zip ([.ref e,v1,v2] ++ ([]:List Value))).reverse.lookup zcn=some v1:=by rfl
 have m2:([zd8,zcn,zbM].zip ([.ref e,v1,v2] ++ ([]:List Value))).reverse.lookup zbM=some v2:=by rfl
 have k0:(envOf qn sc s.heap.objs.size fX fd.code).kindOf zd8=some .local:=zbq F.names (F.slots 0 _ rfl)
 have k1:(envOf qn sc s.heap.objs.size fX fd.code).kindOf zcn=some .local:=zbq F.names (F.slots 1 _ rfl)
 have k2:(envOf qn sc s.heap.objs.size fX fd.code).kindOf zbM=some .local:=zbq F.names (F.slots 2 _ rfl)
 have F1:Fr κ.B s.heap.objs.size h₁ (fun x=>([zd8,zcn,zbM].zip ([.ref e,v1,v2] ++ ([]:List Value))).reverse.lookup x):=⟨hns,fun b o z=>keep1 b o (B b o z),hsz⟩
 refine wpAny_execs_cons (plainObj_wpAny_Assign_Attribute (ld (s:=⟨h₁,_,_,_,_⟩) F1 m1 (ld (s:=⟨h₁,_,_,_,_⟩) F1 m0 ?_ F.kind k0) F.kind k1))
 refine zuj (s:=⟨h₁,_,_,_,_⟩) (W.inK.keeps F1.keep) R F1.keep (keep1 _ _ hx) R.t0 fun h2 tk1 tk2 g1 g2 g3=>?_
 have hLe:s.heap.objs.size≠e:=fun q=>hLn e _ hx q.symm
 have F2:Fr κ.B s.heap.objs.size h2 (fun x=>([zd8,zcn,zbM].zip ([.ref e,v1,v2] ++ ([]:List Value))).reverse.lookup x):=by
  obtain ⟨oL,es,ep,hL,hr⟩:=hns
  exact ⟨⟨oL,es,ep,g1 _ _ hLe hL,hr⟩,fun b o z=>g1 b o (fun q=>by rw [q,hne] at z;cases z) (F1.keep b o z),hsz⟩
 refine wpAny_execs_cons (plainObj_wpAny_Assign_Attribute (ld (s:=⟨h2,_,_,_,_⟩) F2 m2 (ld (s:=⟨h2,_,_,_,_⟩) F2 m0 ?_ F.kind k0) F.kind k2))
 refine zuk (s:=⟨h2,_,_,_,_⟩) (W.inK.keeps F2.keep) R F2.keep g2 g3 rfl (fun t=>by rw [zxI];show 2≤1000;decide) R.t1 fun h3 tk3 tk4 j1 j2=>?_
 refine wpAny_execs_nil ?_
 have hdx:s.heap.get? h₁.objs.size=none:=by
  cases q:s.heap.get? h₁.objs.size with
  | none=>rfl
  | some o=>exact absurd (Heap.lt_size (keep1 _ _ q)) (Nat.lt_irrefl _)
 have hed:e≠h₁.objs.size:=fun q=>by rw [← q,hx] at hdx;cases hdx
 rw [zxI] at j2
 refine H h3 _ h₁.objs.size _ _ (fun b o hb z=>j1 b o (fun q=>by rw [q,hdx] at z;cases z) (g1 b o hb (keep1 b o z))) hdx (j1 e _ hed g2) j2 ?_
 rw [R.xn]
 exact .cons _ (.cons _ .nil)
theorem zul {κ:KK} (W:WFC κ) (R:zeJ κ) {n:Nat} {sc:Scope} {x:Str} {p cpos pos:Pos} {e1 e2:Expr} {F1 F2:EF} (hx:κ.mg x=some (.ref κ.X)) (hk:sc.names.lookup x=some .globalImplicit) (hd:(x == ("__debug__":Str))=false)
  (he1:∀ rest env,starEach (e1 :: rest) env=(false,eval e1 env) :: starEach rest env) (he2:∀ rest env,starEach (e2 :: rest) env=(false,eval e2 env) :: starEach rest env) (h1:SE κ n sc e1 F1) (h2:SE κ n sc e2 F2) :
  CS κ n sc (.Raise (some (.Call (.Name x p) [e1,e2] [] cpos)) none pos) (zdy F1 F2):=by
 refine ⟨?_⟩
 rintro c rfl ok σ μ ρ m s Q E S P
 obtain ⟨D⟩:=R.obj
 obtain ⟨oI,hoI,hfc⟩:=D.fn
 rw [arm_exec_Raise]
 refine wpAny_bind (wpAny_standAt ?_)
 refine zsz (C:=κ.X) (nm:=D.nm) (q:=D.q) (N:=D.N) (bs:=D.bs) (bm:=D.bm) (hdct:=true) (sn:=D.sn) (sub:=D.sub) (ab:=D.ab) (col:=D.col) (dd:=D.dd) (k0:=D.k0) (k1:=D.k1) (k2:=D.k2) (k3:=D.k3) (k5:=D.k5) (newId:="Exception.__new__") (D.T.hasType (by decide)) ok.handled ?_
 refine wpAny_bind ?_
 refine wpAny_Call_ofName (ldG S.fr W.glob hx ?_ ok.kind hk hd)
 refine callWith_K W.inK R.keep ((SEl.cons he1 h1 (SEl.cons he2 h2 .nil)).next rfl ok S .refl .refl S.nbρ (G:=fun vs μ=>zxH vs fun v1 v2=>v1.gI.elim .stuck fun r=>v2.gS.elim .stuck fun w=>.exc (.asm r w) μ) (K:=zes κ c s ρ Q) ?_ fun vs μ1 s1 ρ1 vals S1 l1 g1 x_ x_ rs x_ H1=>⟨W.inK.keeps S1.inv.keep,?_⟩) (he1 _ _) (by rw [he2];rfl)
 ·have e:((zbQ [F1,F2] σ μ).bind fun vs μ=>zxH vs fun v1 v2=>v1.gI.elim .stuck fun r=>v2.gS.elim .stuck fun w=>.exc (.asm r w) μ:RX Fw)=zdy F1 F2 σ μ:=by
   unfold zdy zbQ zbQ zbQ
   cases F1 σ μ with
   | ok v1 μ1=>
    dsimp only [RX.bind]
    cases F2 σ μ1 <;> rfl
   | exc=>rfl
   | stuck=>rfl
  rw [e];exact P
 ·cases rs with
  | nil=>exact H1.elim
  | cons r1 rs=>
  cases rs with
  | nil=>exact H1.elim
  | cons r2 rs=>
  cases rs with
  | cons _ _=>exact H1.elim
  | nil=>
  obtain ⟨r,e1,H1⟩:=zbr H1
  obtain ⟨w',e2,H1⟩:=zbr H1
  cases V.gI_s e1
  cases V.gS_s e2
  obtain ⟨hh,g,d,tk,os⟩:=s1
  have B:=S1.inv.keep
  refine zrk PySem.F.excBase_Exception (D.T.keeps B) (B _ _ D.hC) (D.hN.keeps B) D.hi (B _ _ hoI) hfc (show 2≤sizeLine by decide) fun h' e hm=>?_
  obtain ⟨kp,hnew,t,he,htn,htt⟩:=hm
  have hB':∀ b o,κ.B.get? b=some o→h'.get? b=some o:=fun b o z=>kp b o (B b o z)
  have hsz:κ.B.objs.size≤h'.objs.size:=by
   have h1:=S1.inv.newF ⟨c.L,.act c.env m⟩ (by simp [Cx.fs])
   obtain ⟨oL,hL⟩:=S1.inv.has c.L (List.mem_append_right _ (by simp [Cx.fs]))
   exact Nat.le_trans h1 (Nat.le_of_lt (Heap.lt_size (kp _ _ hL)))
  have hneB:κ.B.get? e=none:=by
   cases z:κ.B.get? e with
   | none=>rfl
   | some o=>rw [B _ _ z] at hnew;cases hnew
  refine zv6 W R D.F.F D.F.hcell (s:=⟨h',g,d,tk,os⟩) (by have:=ok.depth;show c.A.depth+1 < 1000;lia) hB' hsz hneB he fun h2 tk2 dx es n2 q1 q2 q3 q4 q5=>?_
  refine ⟨rfl,?_⟩
  refine wpAny_bind (wpAny_standAt (wpAny_pure ?_))
  have q6:∀ b o,hh.get? b=some o→h2.get? b=some o:=fun b o z=>q1 b o (fun q=>by rw [q,hnew] at z;cases z) (kp b o z)
  refine ⟨e,t,some dx,rfl,q6 _ _ (B _ _ D.hC),q3,?_⟩
  have hdn:hh.get? dx=none:=by
   cases z:hh.get? dx with
   | none=>rfl
   | some o=>rw [kp _ _ z] at q2;cases q2
  have hed:e≠dx:=fun q=>by rw [← q,he] at q2;cases q2
  obtain ⟨S2,l2,g2⟩:=S1.open (s':=⟨h2,g,d,tk2,os⟩) (l:=[e,dx]) (o:=.exc r w') q6 rfl rfl (by simpa using hed) (by
   intro a ha
   simp at ha
   rcases ha with rfl | rfl
   ·exact hnew
   ·exact hdn) (.exc ⟨_,_,es,n2,q3,q4,q5,.cons r1.d_inv (.cons r2.d_inv .nil),.inl ⟨rfl,rfl⟩⟩)
  exact H1 _ _ m e [dx] S2.forget (l1.trans g1 l2) ((g1.trans g2 l1.1).grow S.nbρ) S1.nb
theorem zqA {κ:KK} {A:Around} {E:Value→Shared→Prop} {s:Shared} {e:Addr} {vs:Array Value} {name:Str} {v:Value} {Q:Value→Shared→Prop} {ex:Bool} {dx:Addr} {es:List DictEntry} {n:Nat}
  (X:κ.K.In s.heap) (R:zeJ κ) (B:∀ b o,κ.B.get? b=some o→s.heap.get? b=some o) (hx:s.heap.get? e=some { cls:=.ref κ.X,dict:=some dx,data:=.fields vs,slots:=#[] }) (hd:s.heap.get? dx=some (dictOf es n))
  (ha:findIn κ.K (.ref κ.X) name=some none) (hl:getL name es=some (some v)) (hh:handedIn v=true) (h:Q v { s with toks:=s.toks+1 }) :
  wpAny (model pg κ.w) A (getAttr (.ref e) name ex) Q E s:=by
 have FX:=PySem.F.attr_Exception
 have f3:=FX.ga.bind (.ref e)
 obtain ⟨hp,g,d,t,os⟩:=s
 have I:InstAt hp e { cls:=.ref κ.X,dict:=some dx,data:=.fields vs,slots:=#[] } κ.X (some (dictOf es n)):=⟨hx,rfl,rfl,hd⟩
 have L0:=I.type (M:=model pg κ.w)
 have L1:=looks_findIn (M:=model pg κ.w) X R.ga
 have L2:=looks_findIn (M:=model pg κ.w) X R.gg
 have L3:Looks (model pg κ.w) hp (find (.ref e) (.ref κ.X) name) (.value v):=looks_find X I (findObj_own R.dict ha rfl (by rw [lookIn_dict];exact hl))
 have hx0:(ex && onTheHeap (Value.builtin "BaseException.__getattribute__"))=false:=by cases ex <;> rfl
 have hx2:(Value.builtin "BaseException.__getattribute__" == Value.builtin "object.__getattribute__")=false:=by decide +kernel
 have hx1:(onTheHeap (Value.ref κ.X) && Value.builtin "BaseException.__getattribute__" == Value.builtin "object.__getattribute__")=false:=by rw [hx2];rfl
 unfold getAttr getAttrBy
 refine wpAny_bind (wpAny_mkText (wpAny_holding (wpAny_bind (L0.at (wpAny_bind (L1.at ?_))))))
 dsimp only
 rw [hx1,if_neg (by decide)]
 unfold getAttrByItsOwn hookBefore callGetattribute
 rw [hx0,if_pos (show onTheHeap (.ref κ.X)=true from rfl)]
 refine wpAny_bind (L2.at (wpAny_bind (wpAny_attempt (wpAny_holding ?_))))
 have body:codeAny (model pg κ.w) A (.call (.builtin "BaseException.__getattribute__") ⟨[.ref e,.str name t],[]⟩) (fun r s'=>match r with | .ok (.ret w)=>w=v∧s' = ⟨hp,g,d,t+1,os⟩ | _=>False) ⟨hp,g,d,t+1,os⟩:=by
  obtain ⟨D⟩:=R.obj
  have hC':=B _ _ D.hC
  have sub1:Looks (model pg κ.w) hp (isSubtype (.ref κ.X) (.type "BaseException")) true:=by
   intro A Q E s' k q
   have hc:(Value.ref κ.X :: D.bm).contains (.type "BaseException")=true:=by rw [List.contains_cons,D.T.hasType (b:=true) (by decide),Bool.or_true]
   obtain ⟨h',g',d',t',o'⟩:=s'
   refine wpAny_isSubtype_exc (k _ _ hC') ?_
   rw [hc];exact q
  refine codeAny_call_builtin FX.ga.plain PySem.F.entry_bexc_ga (@check_slot (model pg κ.w) _ _ _ "BaseException.__getattribute__" "BaseException" "__getattribute__" (.ref e) [.str name t] [] _ (by decide +kernel) (by decide +kernel) (I.type.andThen sub1) (PySem.F.args_bexc_ga _ _) ?_)
  unfold Builtin.«object.__getattribute__»
  refine wpAny_bind (wpAny_pure (wpAny_bind (wpAny_pure (wpAny_bind (L0.at (wpAny_bind (L3.at ?_)))))))
  exact wpAny_pure ⟨rfl,rfl⟩
 repeat (any_goals (first | assumption | wp_step))
 refine codeAny_mono body fun r s' z=>?_
 rcases r with e' | (w | _ | _ | _) <;> first | exact z.elim | skip
 obtain ⟨rfl,rfl⟩:=z
 show wpAny _ _ (handedOut _) _ _ _
 rw [handedOut_of hh]
 exact wpAny_pure h
end
theorem zz3 {κ:KK} {n:Nat} {sc:Scope} {x:Str} {i:Nat} {pos:Pos} {l:List Nat} (h:x.cps.toList=l):SE κ n sc (.Constant (.str x) i pos) (zac (.str l)):=by
 subst h;exact zoe rfl
noncomputable def zjs:CF:=fun x_ x_=>.stuck
theorem zll {κ:KK} {n:Nat} {sc:Scope} {st:Stmt}:CS κ n sc st zjs:=⟨fun c hc ok σ μ ρ m s Q E S H=>H.elim⟩
noncomputable def zjt (nb:Nat):Option V→Option V
 | some (.ref k)=>if k < nb then some (.ref k) else none
 | v=>v
noncomputable def ziO (G:CF):CF:=fun σ μ=>(G σ μ).bind fun f μ'=>match f with
 | .next σ'=>.ok (.next (σ'.map (zjt μ.length))) (μ'.take μ.length)
 | .ret v=>.ok (.ret v) μ'
set_option tactic.hygienic true in
theorem zxJ {κ:KK} {c:Cx} {s:Shared} {σ:Loc} {ρ e:List (List Addr)} {μ':Mem} {m:Str→Option Value} (S:Stt κ c s σ (ρ ++ e) μ' m) (h:c.nb≤ρ.length):Stt κ c s (σ.map (zjt ρ.length)) ρ (μ'.take ρ.length) m:=by
 have h1:=S.inv.len
 rw [List.length_append] at h1
 have I:=Inv.mid (ρ1:=ρ) (ρ2:=e) (ρ3:=[]) (μ1:=μ'.take ρ.length) (μ2:=μ'.drop ρ.length) (μ3:=[]) (by
  rw [List.append_nil,List.append_nil,List.take_append_drop];exact S.inv) (by rw [List.length_take];lia) (by rw [List.length_drop];lia)
 rw [List.append_nil,List.append_nil] at I
 refine ⟨I,fun i v hv=>?_,by rw [List.length_take];lia,S.gens,S.os⟩
 rw [List.getElem?_map] at hv
 cases q:σ[i]? with
 | none=>rw [q] at hv;cases hv
 | some w=>
  rw [q] at hv
  simp only [Option.map_some,Option.some.injEq] at hv
  cases w with
  | none=>simp [zjt] at hv
  | some u=>
   obtain ⟨x,kd,val,a1,a2,a3⟩:=S.loc i u q
   have hIm:∀ a o,Im s.heap (ρ ++ e) c.fr a o→Im s.heap ρ c.fr a o:=fun a o ⟨x,y,z⟩=>⟨x,fun q=>y (by rw [List.flatten_append];exact List.mem_append_left _ q),z⟩
   cases a3 with
   | d r=>
    simp [zjt] at hv
    subst hv
    exact ⟨x,kd,val,a1,a2,.d (r.mono hIm)⟩
   | ref eρ=>
    rename_i k a l
    simp only [zjt] at hv
    split at hv
    ·rename_i hlt
     cases hv
     rw [List.getElem?_append_left hlt] at eρ
     exact ⟨x,kd,_,a1,a2,.ref eρ⟩
    ·cases hv
theorem zxK {κ:KK} {n:Nat} {sc:Scope} {sts:List Stmt} {G:CF} (h:CE κ n sc sts G):CE κ n sc sts (ziO G):=by
 refine ⟨fun c hc ok σ μ ρ m s Q E S P=>h.run c hc ok σ μ ρ m s Q E S ?_⟩
 unfold ziO at P
 have hl:=S.inv.len
 cases q:G σ μ with
 | stuck=>rw [q] at P;exact P.elim
 | exc x μ'=>rw [q] at P;exact P
 | ok f μ'=>
  rw [q] at P
  cases f with
  | next σ'=>
   intro s' ρ' m' S' l' g'
   obtain ⟨e,rfl⟩:=zdR g'
   have S2:=zxJ S' S.nbρ
   rw [hl] at S2
   exact P s' ρ m' S2 l' .refl
  | ret v=>exact P
noncomputable def zio (F:EF) (L H:Option EF):EF:=fun σ μ=>(F σ μ).bind fun a μ1=>(zfq L σ μ1).bind fun lo μ2=>(zfq H σ μ2).bind fun hi μ3=>match res μ3 a with
 | some (.lst ds)=>if ds.length≤1000000 then .ok (.ref μ3.length) (μ3 ++ [.list (slc ds lo hi)]) else .stuck
 | _=>.stuck
theorem zsA {κ:KK} (W:WF κ) {n:Nat} {sc:Scope} {e:Expr} {lo hi:Option Expr} {p pos:Pos} {F:EF} {L H:Option EF} (h1:SE κ n sc e F) (h2:SP κ n sc lo L) (h3:SP κ n sc hi H) :
  SE κ n sc (.Subscript e (.Slice lo hi none p) pos) (zio F L H):=by
 refine ⟨?_⟩
 intro c hc ok σ μ ρ m s Q E S HH
 refine Subscript_ (h1.next hc ok S .refl .refl S.nbρ HH fun v1 μ1 s1 ρ1 val1 S1 l1 g1 x_ x_ r1 H1=>?_)
 refine wpAny_Slice (h2.next hc ok S1 l1 g1 S.nbρ H1 fun p1 μ2 s2 ρ2 S2 l2 g2 i2 k2 H2=>?_)
 refine h3.next hc ok S2 l2 g2 S.nbρ H2 fun p2 μ3 s3 ρ3 S3 l3 g3 i3 k3 H3=>?_
 refine wpAny_pure ?_
 obtain ⟨S4,l4⟩:=S3.keeps (s':={ s3 with heap:=s3.heap.push { cls:=.type "slice",data:=.fields #[partValue p1,partValue p2,.none] } }) (fun x_ x_ e=>Heap.get?_push_of_some _ e)
 have r4:=((r1.mono i2 k2).mono i3 k3).mono (l4.im .refl) fun x_ x_ e=>e
 split at H3
 rotate_left
 ·exact H3.elim
 rename_i ds q1
 split at H3
 rotate_left
 ·exact H3.elim
 rename_i hx
 obtain ⟨l,vs,n',rfl,hl,hvs⟩:=(r4.view S4 q1).lst_inv fun a o h=>h.1
 have e:=hvs.length
 have hsl:(s3.heap.push { cls:=.type "slice",data:=.fields #[partValue p1,partValue p2,.none] }).get? s3.heap.objs.size=some { cls:=.type "slice",data:=.fields #[partValue p1,partValue p2,.none] }:=Heap.get?_push_size _ rfl
 refine tail_any hl.isList.typeIs slot_list_getitem.lookup ?_ rfl
 have pv:∀ p:Option (Int×Tok),IsPart (partValue p) (zbG p):=fun p=>by cases p with | none=>exact .none | some q=>obtain ⟨i,t⟩:=q;exact .int i t
 refine wpAny_getItem_list_slice hl.isList ⟨_,hsl,rfl,rfl⟩ (pv p1) (pv p2) .none (by simp) ?_ (by simp [za7];lia)
 rw [zi9]
 generalize hh4:s3.heap.push { cls:=.type "slice",data:=.fields #[partValue p1,partValue p2,.none] }=h4 at *
 obtain ⟨S5,l5,g5⟩:=S4.open (s':={ s3 with heap:=h4.push { cls:=.type "list",data:=.seq (slc vs (zbG p1) (zbG p2)).toArray } }) (l:=[h4.objs.size]) (o:=.list (slc ds (zbG p1) (zbG p2))) (fun x_ x_ e=>Heap.get?_push_of_some _ e) rfl rfl (by simp) (by simpa using zbu (Nat.le_refl _))
  (.list (Heap.get?_push_size _ rfl) ⟨0,rfl⟩ (hvs.slc _ _))
 have l04:=l3.trans g3 l4
 have g5':zbj s ρ (ρ3 ++ [[h4.objs.size]]):=g3.trans g5 l04.1
 refine H3 _ _ _ S5 (l04.trans g3 l5) g5' (.ref (l:=[]) ?_)
 rw [← S3.inv.len,List.getElem?_append_right (Nat.le_refl _)];simp
structure zlU (κ:KK) (n:Nat) (sc scope:Scope) (x:Str) (elt:Expr) (pre:Loc→Bool) (f:Loc→Mem→D→Option D):Prop where
 clos:∀ c,c.sc=sc→zbx n c→∀ σ μ ρ m s,Stt κ c s σ ρ μ m→pre σ=true→∃ cl,closureFor scope c.env=pure cl∧
  ∀ d y,f σ μ d=some y→∀ C m₃ v s₃ (Q E:Value→Shared→Prop),Rd κ.w (Im s.heap ρ c.fr) d v→(∀ b o,s.heap.get? b=some o→s₃.heap.get? b=some o)→s₃.heap.Ns C m₃→m₃ x=some v→
   zbC κ.w s₃ (Im s.heap ρ c.fr) y Q→wpAny (model pg κ.w) c.A (eval elt (compEnvC scope cl C c.env)) Q E s₃
noncomputable def zgp (f:D→Option D):List D→Option (List D)
 | []=>some []
 | d :: ds=>match f d,zgp f ds with
  | some y,some ys=>some (y :: ys)
  | _,_=>none
theorem zox {f:D→Option D}:∀ {ds es:List D},zgp f ds=some es→es.length=ds.length
 | [],_,h=>by cases h;rfl
 | d :: ds,es,h=>by
  unfold zgp at h
  split at h
  ·cases h;simp [zox (f:=f) ‹_›]
  ·cases h
theorem zoy {f:D→Option D}:∀ {ds es:List D},zgp f ds=some es→∀ {i:Nat} {d:D},ds[i]? = some d→∃ y,f d=some y∧es[i]? = some y
 | [],_,h,i,d,hd=>by simp at hd
 | x :: ds,es,h,i,d,hd=>by
  unfold zgp at h
  split at h
  ·cases h
   cases i with
   | zero=>simp at hd;subst hd;exact ⟨_,‹_›,rfl⟩
   | succ i=>simp at hd;simpa using zoy (f:=f) ‹_› hd
  ·cases h
noncomputable def zeY (pre:Loc→Bool) (F:EF) (f:Loc→Mem→D→Option D):EF:=fun σ μ=>if pre σ=true then (F σ μ).bind fun v μ1=>match zcP v μ1 with
  | some ds=>if ds.length≤1000000 then match zgp (f σ μ1) ds with
   | some es=>.ok (.d (.lst es)) μ1
   | none=>.stuck
   else .stuck
  | none=>.stuck
 else .stuck
theorem zaC.snoc {w:World} {I:SI} {d:D} {v:Value} (r:Rd w I d v) {ds:List D} {vs:List Value} (h:zaC w I ds vs):zaC w I (ds ++ [d]) (vs ++ [v]):=h.append (.cons r .nil)
set_option tactic.hygienic true in
theorem zv7 {κ:KK} {n:Nat} {sc scope:Scope} {elt iter:Expr} {x:Str} {px pos:Pos} {pre:Loc→Bool} {F:EF} {f:Loc→Mem→D→Option D} (hs:∀ env v,foldedSetIterable iter env v=pure v) (hcell:∀ y∈scope.names,y.2≠.cell) (hkind:scope.kind = .function)
  (hnames:∀ y∈scope.names,y.2 = .local→scope.names.lookup y.1=some .local) (hx:scope.names.lookup x=some .local) (h:SE κ n sc iter F) (he:zlU κ n sc scope x elt pre f) :
  SE κ n sc (.ListComp elt [⟨.Name x px,iter,[],0⟩] scope pos) (zeY pre F f):=by
 refine ⟨?_⟩
 intro c hc ok σ μ ρ m s Q E S H
 rw [eval_ListComp]
 unfold zeY at H
 split at H
 rotate_left
 ·exact H.elim
 rename_i hp
 obtain ⟨cl,hcl,_⟩:=he.clos c hc ok σ μ ρ m s S hp
 refine wpAny_comprehension_free (use:=none) rfl (hs _) hcl hkind hnames ?_
 refine h.next hc ok S .refl .refl S.nbρ H fun v μ1 s1 ρ1 val S1 l1 g1 x_ x_ r1 H1=>?_
 split at H1
 rotate_left
 ·exact H1.elim
 rename_i ds hds
 split at H1
 rotate_left
 ·exact H1.elim
 rename_i hlen
 split at H1
 rotate_left
 ·exact H1.elim
 rename_i es hes
 obtain ⟨a,vs,n',rfl,hl,hvs⟩:=(r1.view S1 (zjq hds)).lst_inv fun a o h=>h.1
 have P:=S1.post l1 g1 H1
 obtain ⟨cl',hcl',hel⟩:=he.clos c hc ok σ μ1 ρ1 m s1 S1 hp
 have e1:cl=cl':=by rw [hcl] at hcl';exact Sem.pure.inj hcl'
 subst e1
 have lds:=hvs.length
 have les:=zox hes
 refine wpAny_pyIter_list hl.isList ?_
 refine wpAny_newObj_type (wpAny_newFunctionEnv hcell (by intro y hy;simp at hy) (fun h₁ hns₁ hsb₁=>?_) hkind)
 dsimp only at hns₁ hsb₁ ⊢
 generalize hI:s1.heap.objs.size=I at *
 have hIn:∀ b o,s1.heap.get? b=some o→b≠I:=fun b o e=>by rw [← hI];exact Nat.ne_of_lt (Heap.lt_size e)
 generalize hA:s1.heap.push { cls:=.type "list_iterator",data:=.fields #[.ref a,.int 0 0] }=hA' at *
 have zA:hA'.objs.size=I+1:=by rw [← hA,Heap.size_push,hI]
 have kA:∀ b o,s1.heap.get? b=some o→hA'.get? b=some o:=fun b o e=>by rw [← hA];exact Heap.get?_push_of_some _ e
 have iA:hA'.get? I=some { cls:=.type "list_iterator",data:=.fields #[.ref a,.int 0 0] }:=by rw [← hA,← hI];exact Heap.get?_push_size _ rfl
 generalize hB:hA'.push { cls:=.type "list",data:=.seq ([]:List Value).toArray }=hB' at *
 have zB:hB'.objs.size=I+2:=by rw [← hB,Heap.size_push,zA]
 have kB:∀ b o,hA'.get? b=some o→hB'.get? b=some o:=fun b o e=>by rw [← hB];exact Heap.get?_push_of_some _ e
 have dB:hB'.get? (I+1)=some { cls:=.type "list",data:=.seq ([]:List Value).toArray }:=by rw [← hB,← zA];exact Heap.get?_push_size _ rfl
 rw [zA]
 rw [zB] at hns₁ hsb₁ ⊢
 have kC:∀ b o,b≠I+2→hB'.get? b=some o→h₁.get? b=some o:=fun b o hb e=>hsb₁.extBut b o hb (Heap.get?_push_of_some _ e)
 have old:∀ (b:Nat) (o:Obj),s1.heap.get? b=some o→b < I:=fun b o e=>by rw [← hI];exact Heap.lt_size e
 have k1:∀ b o,s1.heap.get? b=some o→h₁.get? b=some o:=fun b o e=>kC b o (by have:=old b o e;lia) (kB b o (kA b o e))
 have d01:I≠I+1:=Nat.ne_of_lt (Nat.lt_succ_self _)
 have d02:I≠I+2:=Nat.ne_of_lt (Nat.lt_add_of_pos_right (by decide))
 have d21:I+2≠I+1:=Nat.ne_of_gt (Nat.lt_succ_self _)
 have loop:∀ tk,codeAny (model pg κ.w) c.A (.compLoop (.ListComp elt [⟨.Name x px,iter,[],0⟩] scope pos) 0 (.ref I) (.ref (I+1)) (compEnvC scope cl (I+2) c.env))
   (compPost (model pg κ.w) c.A E none Q (.ref (I+1)) (I+2)) { s1 with heap:=h₁,toks:=tk }:=by
  intro tk
  refine codeAny_compLoop_tests (fun k s'=>∃ (m':Str→Option Value) (i:Nat) (ys:List Value),s'.gens=s1.gens∧s'.os=s1.os∧s'.heap.IsListIter I a i∧s'.heap.PlainList (I+1) ys.toArray∧s'.heap.Ns (I+2) m'∧i≤ds.length∧k=ds.length+1 - i∧ys.length=i∧
   (∀ b o,s1.heap.get? b=some o→s'.heap.get? b=some o)∧
   ∀ J:SI,(∀ b o,Im s1.heap ρ1 c.fr b o→J b o)→(∀ b o,s1.heap.get? b=none→b≠I→b≠I+1→b≠I+2→s'.heap.get? b=some o→J b o)→zaC κ.w J (es.take i) ys) ?_ (ds.length+1)
   ⟨_,0,[],rfl,rfl,⟨_,kC _ _ (by lia) (kB _ _ iA),rfl,rfl⟩,⟨0,kC _ _ (by lia) dB⟩,hns₁,Nat.zero_le _,rfl,rfl,k1,fun J x_ x_=>by rw [List.take_zero];exact .nil⟩
  rintro k s' ⟨m',i,ys,q1,q2,hit,hac,hns,hi,rfl,hyl,hk,hJ⟩
  have hl':s'.heap.IsList a vs.toArray:=let ⟨o,ho,r⟩:=hl.isList;⟨o,hk _ _ ho,r⟩
  cases hdi:ds[i]? with
  | none=>
   have hge:ds.length≤i:=List.getElem?_eq_none_iff.mp hdi
   refine wpAny_pyNext_list_end ok.handled hit hl' (by simp;lia) fun h2 he2=>?_
   refine ⟨m',hns.extBut he2 (Ne.symm d02),fun h3 hs3=>?_⟩
   have k23:∀ b o,b≠I→b≠I+2→s'.heap.get? b=some o→h3.get? b=some o:=fun b o hb hb2 e=>hs3.extBut b o hb2 (he2 b o hb e)
   refine P _ _ ⟨fun b o e=>k23 b o (by have:=old b o e;lia) (by have:=old b o e;lia) (hk b o e),q1,q2⟩ fun J hJ1 hJ2=>?_
   obtain ⟨nn,hac'⟩:=hac
   refine .lst (hJ2 _ _ (zbu (by rw [hI];exact Nat.le_succ _)) (k23 _ _ (by lia) (by lia) hac')) ⟨nn,rfl⟩ ?_
   have:=hJ J hJ1 fun b o e1 e2 e3 e4 e5=>hJ2 b o e1 (k23 b o e2 e4 e5)
   rwa [List.take_of_length_le (by lia)] at this
  | some d=>
   obtain ⟨v,hv,rv⟩:=hvs.get hdi
   obtain ⟨y,hy,hyi⟩:=zoy hes hdi
   have hlt:i < ds.length:=(List.getElem?_eq_some_iff.mp hdi).1
   refine wpAny_pyNext_list_item hit hl' (x:=v) (by simpa using hv) fun h2 hit2 hs2=>?_
   refine wpAny_assign_Name (wpAny_storeName_local (env:=compEnvC scope cl (I+2) c.env) (lookup_relabel_local hx) (hns.sameBut hs2 (by show I+2≠I;lia)) (fun h3 hns3 hs3=>?_) (by simp [compEnvC,relabel,hkind]))
   refine wpAny_tests_nil ?_
   rw [if_pos rfl]
   have hs3':Heap.SameBut (I+2) h2 h3:=hs3
   have hns3':h3.Ns (I+2) (fun z=>if z=x then some v else m' z):=hns3
   have k03:∀ b o,b≠I→b≠I+2→s'.heap.get? b=some o→h3.get? b=some o:=fun b o hb hb2 e=>hs3'.extBut b o hb2 (hs2.extBut b o hb e)
   have hit3:h3.IsListIter I a (i+1):=hit2.extBut hs3'.extBut d02
   have hac3:h3.PlainList (I+1) ys.toArray:=hac.at fun o e=>k03 _ o (by lia) (by lia) e
   have k13:∀ b o,s1.heap.get? b=some o→h3.get? b=some o:=fun b o e=>k03 b o (by have:=old b o e;lia) (by have:=old b o e;lia) (hk b o e)
   refine hel d y hy (I+2) _ v _ _ _ rv k13 hns3' (by simp) fun s4 yv g4 ry=>?_
   have hac4:s4.heap.PlainList (I+1) ys.toArray:=hac3.at fun o e=>g4.1 _ o e
   refine wpAny_list_append_plain (hsz:=by simp [za7];lia) hac4 fun h5 hac5 hs5=>?_
   have k45:∀ b o,b≠I+1→s4.heap.get? b=some o→h5.get? b=some o:=fun b o hb e=>hs5.extBut b o hb e
   refine ⟨ds.length+1 - (i+1),by lia,_,i+1,ys ++ [yv],g4.2.1.trans q1,g4.2.2.trans q2,(hit3.at fun o e=>g4.1 _ o e).extBut hs5.extBut d01,by simpa using hac5,(hns3'.keeps g4.1).sameBut hs5 d21,hlt,rfl,by simp [hyl],
    fun b o e=>k45 b o (by have:=old b o e;lia) (g4.1 b o (k13 b o e)),fun J hJ1 hJ2=>?_⟩
   rw [List.take_add_one,hyi]
   refine zaC.snoc (ry J hJ1 fun b o e1 e2=>?_) (hJ J hJ1 fun b o e1 e2 e3 e4 e5=>hJ2 b o e1 e2 e3 e4 (k45 b o e3 (g4.1 b o (k03 b o e2 e4 e5))))
   have n1:b≠I:=fun q=>by obtain ⟨o',h',_⟩:=hit3;rw [q,h'] at e1;cases e1
   have n2:b≠I+1:=fun q=>by obtain ⟨nn,h'⟩:=hac3;rw [q,h'] at e1;cases e1
   have n3:b≠I+2:=fun q=>by obtain ⟨o',_,_,h',_⟩:=hns3';rw [q,h'] at e1;cases e1
   have n0:s1.heap.get? b=none:=by
    cases q:s1.heap.get? b with
    | none=>rfl
    | some o'=>rw [k13 b o' q] at e1;cases e1
   exact hJ2 b o n0 n1 n2 n3 (k45 b o n2 e2)
 refine codeAny_compStart_list (loop _) (wpAny_pyIter_listiter ⟨_,kC _ _ (by lia) (kB _ _ iA),rfl,rfl⟩ (loop _))
theorem Vw.keeps {w:World} {h h':Heap} {I:SI} {x:D} {v:Value} (a:Vw w h I x v) (hk:∀ b o,h.get? b=some o→h'.get? b=some o):Vw w h' I x v:=by
 cases a with
 | rd r=>exact .rd r
 | lst a b c=>exact .lst (hk _ _ a) b c
 | dcI a b c d e=>exact .dcI (hk _ _ a) b c d e
 | dcS a b c d e=>exact .dcS (hk _ _ a) b c d e
theorem zju {env:Env} (h1:env.scope.kind = .function):∀ {names:List (Str×NameKind)} {y:Str},env.kindOf y=some .cell→names.lookup y=some .free→
  (names.map fun (n,k)=>if (k == NameKind.free && env.scope.kind == .function && env.kindOf n == some .cell) then (n,NameKind.cell) else (n,k)).lookup y=some .cell
 | [],_,_,h=>by simp at h
 | (n,k) :: r,y,hy,h=>by
  have ih:=@zju env h1 r y hy
  show List.lookup y ((if (k == NameKind.free && env.scope.kind == .function && env.kindOf n == some .cell)=true then (n,NameKind.cell) else (n,k)) :: _)=_
  cases hx:y == n with
  | true=>
   simp only [List.lookup_cons,hx] at h
   cases h
   have:n=y:=(beq_iff_eq.mp hx).symm
   subst this
   simp [List.lookup_cons,h1,hy]
  | false=>
   simp only [List.lookup_cons,hx] at h
   split <;> (simp only [List.lookup_cons,hx];exact ih h)
theorem ziq {env:Env}:∀ {names:List (Str×NameKind)} {y:Str},names.lookup y=some .globalImplicit→
  (names.map fun (n,k)=>if (k == NameKind.free && env.scope.kind == .function && env.kindOf n == some .cell) then (n,NameKind.cell) else (n,k)).lookup y=some .globalImplicit
 | [],_,h=>by simp at h
 | (n,k) :: r,y,h=>by
  have ih:=@ziq env r y
  show List.lookup y ((if (k == NameKind.free && env.scope.kind == .function && env.kindOf n == some .cell)=true then (n,NameKind.cell) else (n,k)) :: _)=_
  cases hx:y == n with
  | true=>
   simp only [List.lookup_cons,hx] at h
   cases h
   simp [List.lookup_cons,hx]
  | false=>
   simp only [List.lookup_cons,hx] at h
   split <;> (simp only [List.lookup_cons,hx];exact ih h)
section
variable {M:Model} {A:Around} {E:Value→Shared→Prop} {s:Shared} {scope:Scope} {cl:List (Str×Addr)} {C:Addr} {env:Env} {m:Str→Option Value} {v:Value} {Q:Value→Shared→Prop} {pos:Pos}
theorem ldI {x:Str} (hn:s.heap.Ns C m) (hv:m x=some v) (h:Q v s) (hk:scope.kind = .function) (hx:scope.names.lookup x=some .local) (hd:(x == ("__debug__":Str))=false):wpAny M A (eval (.Name x pos) (compEnvC scope cl C env)) Q E s:=
 wpAny_Name (wpAny_loadName_local (env:=compEnvC scope cl C env) hk (lookup_relabel_local hx) hn hv h) hd
theorem zzO {y:Str} {ca:Addr} (hc:cl.lookup y=some ca) (hv:s.heap.IsCell ca (some v)) (h:Q v s) (hk:scope.kind = .function) (hy:scope.names.lookup y=some .free) (hd:(y == ("__debug__":Str))=false) (hek:env.scope.kind = .function) (hyk:env.kindOf y=some .cell) :
  wpAny M A (eval (.Name y pos) (compEnvC scope cl C env)) Q E s:=
 wpAny_Name (wpAny_loadName_cell (env:=compEnvC scope cl C env) hk (zju hek hyk hy) hc hv h) hd
theorem zzP {y:Str} {mg mb:Str→Option Value} (hg:s.heap.Ns env.globals mg) (hm:mg y=none) (hb:s.heap.Ns env.builtins mb) (hv:mb y=some v) (h:Q v s) (hk:scope.kind = .function) (hy:scope.names.lookup y=some .globalImplicit) (hd:(y == ("__debug__":Str))=false) :
  wpAny M A (eval (.Name y pos) (compEnvC scope cl C env)) Q E s:=
 Calls.Name_function_global (env:=compEnvC scope cl C env) hk (ziq hy) (Calls.loadGlobal_builtin (env:=compEnvC scope cl C env) hg hm hb hv h) hd
end
noncomputable def zhP (iy:Nat) (σ:Loc) (μ:Mem) (d:D):Option D:=match σ[iy]? with
 | some (some v)=>match res μ v with
  | some z=>zap z d
  | none=>none
 | _=>none
noncomputable def zdr (iy:Nat) (σ:Loc):Bool:=match σ[iy]? with
 | some (some _)=>true
 | _=>false
theorem zp0 {scope:Scope} {env:Env} {z x y:Str} {ca:Addr} (hn:scope.names=[(z,.local),(x,.local),(y,.free)]) (hc:env.cells.lookup y=some ca):closureFor scope env=pure [(y,ca)]:=by
 unfold closureFor
 rw [hn]
 simp [cellOf,hc]
set_option tactic.hygienic true in
theorem zsB {κ:KK} {n:Nat} {sc scope:Scope} {z x y:Str} {iy:Nat} {p1 p2 p3:Pos} (hn:scope.names=[(z,.local),(x,.local),(y,.free)]) (hk:scope.kind = .function) (hx:scope.names.lookup x=some .local) (hy:scope.names.lookup y=some .free)
  (hiy:sc.names[iy]? = some (y,NameKind.cell)) (hly:sc.names.lookup y=some .cell) (hdx:(x == ("__debug__":Str))=false) (hdy:(y == ("__debug__":Str))=false) (W:WF κ) {c:Cx} (hc:c.sc=sc) (ok:zbx n c) {σ:Loc} {μ:Mem} {ρ:List (List Addr)} {m:Str→Option Value} {s:Shared} (S:Stt κ c s σ ρ μ m)
  (hp:zdr iy σ=true):∃ ca,closureFor scope c.env=pure [(y,ca)]∧∀ d e,zhP iy σ μ d=some e→∀ C m₃ v s₃ (Q E:Value→Shared→Prop),Rd κ.w (Im s.heap ρ c.fr) d v→(∀ b o,s.heap.get? b=some o→s₃.heap.get? b=some o)→s₃.heap.Ns C m₃→m₃ x=some v→
   zbC κ.w s₃ (Im s.heap ρ c.fr) e Q→wpAny (model pg κ.w) c.A (eval (.Subscript (.Name y p1) (.Name x p2) p3) (compEnvC scope [(y,ca)] C c.env)) Q E s₃:=by
 subst hc
 unfold zdr at hp
 split at hp
 rotate_left
 ·cases hp
 rename_i w hw
 obtain ⟨y',k',val,h1,h2,r⟩:=S.loc iy w hw
 rw [hiy] at h1
 cases h1
 obtain ⟨ca,o,q1,q2,q3⟩:=ok.cells y val h2
 have hpin:s.heap.get? ca=some o:=S.inv.ns ⟨ca,.pin o⟩ (List.mem_cons_of_mem _ q2)
 refine ⟨ca,zp0 hn q1,?_⟩
 intro d e he C m₃ v s₃ Q E rv hkp hns hm P
 unfold zhP at he
 rw [hw] at he
 dsimp only at he
 split at he
 rotate_left
 ·cases he
 rename_i zz hz
 have hcl:([(y,ca)]:List (Str×Addr)).lookup y=some ca:=by simp
 refine Subscript_ (zzO hcl ⟨o,hkp _ _ hpin,q3⟩ (ldI hns hm ?_ hk hx hdx) hk hy hdy ok.kind hly)
 exact zqu he ⟨by have:=ok.units;lia,ok.handled,(W.lim.keeps S.inv.keep).keeps hkp,fun a o h=>hkp a o h.1⟩ ((r.view S hz).keeps hkp) (.rd rv) P rfl
noncomputable def zrl (iy:Nat):Loc→Mem→D→Option D:=fun σ μ d=>(zhP iy σ μ d).map fun e=>.tup [d,e]
noncomputable def zrm (iy:Nat):Loc→Mem→D→Option D:=fun σ μ d=>(zhP iy σ μ d).map fun e=>.lst [d,e]
noncomputable def zgq:Loc→Mem→D→Option D:=fun x_ x_ d=>zom [d]
theorem zv8 {κ:KK} (W:WF κ) {n:Nat} {sc scope:Scope} {z x y:Str} {iy:Nat} {k:Nat} {p1 p2 p3 p4 p5:Pos} (hn:scope.names=[(z,.local),(x,.local),(y,.free)]) (hk:scope.kind = .function) (hx:scope.names.lookup x=some .local) (hy:scope.names.lookup y=some .free)
  (hiy:sc.names[iy]? = some (y,NameKind.cell)) (hly:sc.names.lookup y=some .cell) (hdx:(x == ("__debug__":Str))=false) (hdy:(y == ("__debug__":Str))=false) :
  zlU κ n sc scope x (.Tuple [.Name x p1,.Subscript (.Name y p3) (.Name x p4) p5] k p2) (zdr iy) (zrl iy):=by
 refine ⟨?_⟩
 intro c hc ok σ μ ρ m s S hp
 obtain ⟨ca,h1,h2⟩:=zsB (p1:=p3) (p2:=p4) (p3:=p5) hn hk hx hy hiy hly hdx hdy W hc ok S hp
 refine ⟨_,h1,?_⟩
 intro d w hw C m₃ v s₃ Q E rv hkp hns hm P
 obtain ⟨e,he,rfl⟩:=Option.map_eq_some_iff.mp hw
 refine PySem.wpAny_Tuple (wpAny_items_cons (ldI hns hm (wpAny_items_cons (h2 d e he C m₃ v s₃ _ _ rv hkp hns hm fun s4 ev g r=>wpAny_items_nil ?_)) hk hx hdx))
 refine ⟨by show 2≤sizeLine;decide,?_⟩
 refine P _ _ ⟨fun b o q=>Heap.get?_push_of_some _ (g.1 b o q),g.2⟩ fun J hJ1 hJ2=>?_
 have hnew:s₃.heap.get? s4.heap.objs.size=none:=by
  cases q:s₃.heap.get? s4.heap.objs.size with
  | none=>rfl
  | some o=>exact absurd (Heap.lt_size (g.1 _ _ q)) (Nat.lt_irrefl _)
 exact .tup (hJ2 _ _ hnew (Heap.get?_push_size _ rfl)) ⟨0,rfl⟩ (.cons (rv.mono hJ1) (.cons (r J hJ1 fun a o q1 q2=>hJ2 a o q1 (Heap.get?_push_of_some _ q2)) .nil))
theorem zv9 {κ:KK} (W:WF κ) {n:Nat} {sc scope:Scope} {z x y:Str} {iy:Nat} {p1 p2 p3 p4 p5:Pos} (hn:scope.names=[(z,.local),(x,.local),(y,.free)]) (hk:scope.kind = .function) (hx:scope.names.lookup x=some .local) (hy:scope.names.lookup y=some .free)
  (hiy:sc.names[iy]? = some (y,NameKind.cell)) (hly:sc.names.lookup y=some .cell) (hdx:(x == ("__debug__":Str))=false) (hdy:(y == ("__debug__":Str))=false) :
  zlU κ n sc scope x (.List [.Name x p1,.Subscript (.Name y p3) (.Name x p4) p5] p2) (zdr iy) (zrm iy):=by
 refine ⟨?_⟩
 intro c hc ok σ μ ρ m s S hp
 obtain ⟨ca,h1,h2⟩:=zsB (p1:=p3) (p2:=p4) (p3:=p5) hn hk hx hy hiy hly hdx hdy W hc ok S hp
 refine ⟨_,h1,?_⟩
 intro d w hw C m₃ v s₃ Q E rv hkp hns hm P
 obtain ⟨e,he,rfl⟩:=Option.map_eq_some_iff.mp hw
 refine PySem.wpAny_List (wpAny_items_cons (ldI hns hm (wpAny_items_cons (h2 d e he C m₃ v s₃ _ _ rv hkp hns hm fun s4 ev g r=>wpAny_items_nil ?_)) hk hx hdx))
 refine ⟨by show 2≤sizeLine;decide,?_⟩
 refine P _ _ ⟨fun b o q=>Heap.get?_push_of_some _ (g.1 b o q),g.2⟩ fun J hJ1 hJ2=>?_
 have hnew:s₃.heap.get? s4.heap.objs.size=none:=by
  cases q:s₃.heap.get? s4.heap.objs.size with
  | none=>rfl
  | some o=>exact absurd (Heap.lt_size (g.1 _ _ q)) (Nat.lt_irrefl _)
 exact .lst (hJ2 _ _ hnew (Heap.get?_push_size _ rfl)) ⟨0,rfl⟩ (.cons (rv.mono hJ1) (.cons (r J hJ1 fun a o q1 q2=>hJ2 a o q1 (Heap.get?_push_of_some _ q2)) .nil))
theorem zrn {κ:KK} (W:WF κ) {n:Nat} {sc scope:Scope} {x:Str} {p1 p2 p3:Pos} (hnf:∀ y∈scope.names,y.2≠.free) (hk:scope.kind = .function) (hx:scope.names.lookup x=some .local) (hl:scope.names.lookup (Str.ofString "list")=some .globalImplicit) (hd:(x == ("__debug__":Str))=false) :
  zlU κ n sc scope x (.Call (.Name (Str.ofString "list") p1) [.Name x p2] [] p3) (fun x_=>true) zgq:=by
 refine ⟨?_⟩
 intro c hc ok σ μ ρ m s S _
 refine ⟨[],closureFor_none hnf,?_⟩
 intro d y hy C m₃ v s₃ Q E rv hkp hns hm P
 have hb:Str.ofString "list"=Str.ofString "list":=rfl
 refine wpAny_Call_ofName (zzP (W.glob.keeps fun b o e=>hkp b o (S.inv.keep b o e)) (W.free "list" (by decide)) (W.blt.keeps fun b o e=>hkp b o (S.inv.keep b o e)) ((W.boot "list" (by decide)).trans (b:=bootBuiltins (Str.ofString "list")) (c:=some (.type "list")) rfl) ?_ hk hl (by decide))
 refine ziK (.inr ⟨_,rfl⟩) (wpAny_items_cons (ldI hns hm (wpAny_items_nil ?_) hk hx hd)) rfl rfl
 exact zrd.run _ _ hy _ _ (Im s.heap ρ c.fr) _ _ _ ⟨by have:=ok.units;lia,ok.handled,(W.lim.keeps S.inv.keep).keeps hkp,fun a o h=>hkp a o h.1⟩ (.cons (.rd rv) .nil) P
theorem zsC {l rest:List Stmt} {env:Env}:execs (l ++ rest) env=(execs l env >>= fun f=>match f with | .next=>execs rest env | f=>pure f):=by
 induction l with
 | nil=>show _=Sem.bind (Sem.pure Flow.next) _;rfl
 | cons st l ih=>
  rw [List.cons_append,execs_cons,execs_cons,ih,bind_assoc]
  congr 1
  funext f
  cases f <;> rfl
theorem Inv.cons2 {κ:KK} {h h':Heap} {f g:Fm} {fs:List Fm} {ρ:List (List Addr)} {μ:Mem} (I:Inv κ h fs ρ μ) (hk:∀ b o,h.get? b=some o→h'.get? b=some o) (hf:zh2 h' f) (hg:zh2 h' g) (hn:h.get? f.L=none) (hn':h.get? g.L=none) (hne:f.L≠g.L) (hz:κ.B.objs.size≤f.L) (hz':κ.B.objs.size≤g.L) :
  Inv κ h' (f :: g :: fs) ρ μ:=by
 have out:∀ a,h.get? a=none→a∉ρ.flatten ++ fs.map (·.L):=fun a ha q=>by obtain ⟨o,e⟩:=I.has _ q;rw [ha] at e;cases e
 refine ⟨fun b o e=>hk b o (I.keep b o e),fun x hx=>?_,?_,I.new,fun x hx=>?_,I.len,fun k o ho=>?_⟩
 ·rcases List.mem_cons.mp hx with rfl | hx
  ·exact hf
  ·rcases List.mem_cons.mp hx with rfl | hx
   ·exact hg
   ·exact (I.ns x hx).keep fun o=>hk _ o
 ·have:=I.nodup
  rw [List.map_cons,List.map_cons]
  have h1:(g.L :: (ρ.flatten ++ fs.map (·.L))).Nodup:=List.nodup_cons.mpr ⟨out _ hn',this⟩
  have h2:(f.L :: g.L :: (ρ.flatten ++ fs.map (·.L))).Nodup:=List.nodup_cons.mpr ⟨fun q=>by
   rcases List.mem_cons.mp q with q | q
   ·exact hne q
   ·exact out _ hn q,h1⟩
  refine List.Perm.nodup ?_ h2
  exact ((List.Perm.cons _ List.perm_middle.symm).trans List.perm_middle.symm)
 ·rcases List.mem_cons.mp hx with rfl | hx
  ·exact hz
  ·rcases List.mem_cons.mp hx with rfl | hx
   ·exact hz'
   ·exact I.newF x hx
 ·obtain ⟨l,hl,M⟩:=I.objs k o ho
  refine ⟨l,hl,M.keep (fun a x_ o e=>hk a o e) fun a o ⟨x,y,z⟩=>⟨hk a o x,y,fun q=>?_⟩⟩
  rw [List.map_cons,List.map_cons] at q
  rcases List.mem_cons.mp q with q | q
  ·rw [q,hn] at x;cases x
  ·rcases List.mem_cons.mp q with q | q
   ·rw [q,hn'] at x;cases x
   ·exact z q
set_option tactic.hygienic true in
theorem zsD {κ:KK} (W:WF κ) {n:Nat} {f:Addr} {pre post:List Stmt} {x0 y:Str} {p1 p2 p3:Pos} {sc:Scope} {q:Str} {iy:Nat} {G1 G2:CF} (F:ze7 κ f (pre ++ .Assign [.Name y p1] (.Dict [] [] p2) p3 :: post) sc q [x0] [])
  (hcf:∀ k,cellsFrom k sc.names []=[(y,k)]) (hiy:sc.names[iy]? = some (y,NameKind.cell)) (honly:∀ (i:Nat) x,sc.names[i]? = some (x,NameKind.cell)→i=iy) (h1:CE κ n sc pre G1) (h2:CE κ n sc post G2) :
  zaU κ (n+1) f 1 (kFn sc (zaj G1 (zaj (zam (zat iy) zgN) G2)) []):=by
 refine ⟨?_⟩
 intro A fs s ρ μ vs vals R C I hgens hos rs hk hsz H
 obtain ⟨o,fd,ho,hdat,e1,e2,e3,e4,e5,e6,hcd,hbind⟩:=F.obj
 obtain ⟨v0,rfl⟩:=List.length_eq_one_iff.mp (show vs.length=1 from hk)
 cases rs with
 | cons r0 rs=>
 cases rs
 rename_i val0
 have hk0:sc.names.lookup x0=some .local:=zbq F.names (F.slots 0 _ rfl)
 have hky:sc.names.lookup y=some .cell:=zbq F.names hiy
 refine codeAny_call_function (by have:=C.depth;show A.depth < 1000;lia) (I.keep _ _ ho) hdat (by rw [e1];exact F.co) (by rw [e1];exact F.gen) e5 (e6▸hcd.keeps I.keep) ?_
 refine hbind [val0] rfl _ _ _ _ I.keep ?_
 rw [e1,e2,e3,e4,e6]
 refine wpAny_newFunctionEnv_cells F.kind (fun x hx=>.inl (by simp at hx;subst hx;exact hk0)) fun env henv s1 X=>?_
 rw [hcf] at henv
 subst henv
 obtain ⟨⟨⟨h₁,tk₁,rfl⟩,hns,hkeep,_⟩,hcell,_,_⟩:=X
 dsimp only at hns hkeep hcell
 refine ⟨(W.lim.keeps I.keep).keeps hkeep,?_⟩
 have hm0:(bindL (newEnv sc s.heap.objs.size mainGlobals [(y,s.heap.objs.size+1)] (q ++ ".<locals>.") (some f) fd.code none builtinsNs).kindOf [(x0,val0)] fun x_=>none) x0=some val0:=by
  unfold bindL bindL
  rw [if_pos (show (newEnv sc s.heap.objs.size mainGlobals [(y,s.heap.objs.size+1)] (q ++ ".<locals>.") (some f) fd.code none builtinsNs).kindOf x0=some .local from hk0)]
  simp
 obtain ⟨oc,hoc,hocd⟩:=hcell y (s.heap.objs.size+1) (by simp [newEnv])
 have hLn:s.heap.get? s.heap.objs.size=none:=zbu (Nat.le_refl _)
 have hCn:s.heap.get? (s.heap.objs.size+1)=none:=zbu (Nat.le_succ _)
 have hLC:s.heap.objs.size≠s.heap.objs.size+1:=Nat.ne_of_lt (Nat.lt_succ_self _)
 have hlen:=I.len
 replace hns:h₁.Ns s.heap.objs.size (bindL (newEnv sc s.heap.objs.size mainGlobals [(y,s.heap.objs.size+1)] (q ++ ".<locals>.") (some f) fd.code none builtinsNs).kindOf [(x0,val0)] fun x_=>none):=hns
 generalize hm:(bindL (newEnv sc s.heap.objs.size mainGlobals [(y,s.heap.objs.size+1)] (q ++ ".<locals>.") (some f) fd.code none builtinsNs).kindOf [(x0,val0)] fun x_=>none)=m1 at hns hm0
 let A1:Around:=A.deeper (newEnv sc s.heap.objs.size mainGlobals [(y,s.heap.objs.size+1)] (q ++ ".<locals>.") (some f) fd.code none builtinsNs)
 let c0:Cx:=⟨A1,q,sc,s.heap.objs.size,f,fd.code,fs,ρ.length,[(y,s.heap.objs.size+1)],[]⟩
 let c:Cx:=c0.pin (s.heap.objs.size+1) oc
 let s1:Shared:=⟨h₁,s.gens,s.drawn,tk₁,s.os⟩
 show codeAny _ A (.func _ c.env) _ _
 have ok0:zbx n c0:=⟨by show A.frames.map _=_;rw [C.frames];rfl,F.kind,C.handled,by have:=C.depth;show A.depth+1+20 * n+20≤1000;lia,by have:=C.units;show A.units+3+100 * n+100≤9900;lia,F.names,fun x val h=>by cases h⟩
 have ok:zbx n c:=ok0.pin _ _
 have hIm:∀ a o,Im s.heap ρ (fs.map (·.L)) a o→Im s1.heap ρ c.fr a o:=by
  rintro a o ⟨x,y,z⟩
  refine ⟨hkeep a o x,y,fun r=>?_⟩
  rcases List.mem_cons.mp r with r | r
  ·rw [r] at x;have x':=hLn.symm.trans x;cases x'
  ·rcases List.mem_cons.mp r with r | r
   ·rw [r] at x;have x':=hCn.symm.trans x;cases x'
   ·exact z r
 have S1:Stt κ c s1 (zaK sc [v0]) ρ μ m1:=by
  refine ⟨I.cons2 (f:=⟨s.heap.objs.size,.act c.env m1⟩) (g:=⟨s.heap.objs.size+1,.pin oc⟩) hkeep ⟨hns,rfl,F.kind⟩ hoc hLn hCn hLC hsz (Nat.le_succ_of_le hsz),fun i v hv=>?_,by show ρ.length≤μ.length;lia,hgens,hos⟩
  unfold zaK at hv
  cases i with
  | zero=>
   simp at hv;subst hv
   exact ⟨x0,.local,val0,F.slots 0 _ rfl,hm0,r0.mono hIm fun x_ x_ e=>e⟩
  | succ i=>
   rw [List.getElem?_append_right (by simp),List.getElem?_replicate] at hv
   split at hv <;> cases hv
 have hth:zd9 s s1:=fun a o e=>⟨o,hkeep a o e⟩
 rw [zlR] at H
 have hst:zaK sc ([v0] ++ [])=zaK sc [v0]:=rfl
 rw [hst] at H
 refine codeAny_func ?_
 show wpAny _ c.A _ _ _ s1
 rw [zsC]
 refine wpAny_bind (h1.run c rfl ok (zaK sc [v0]) μ ρ m1 s1 _ _ S1 ?_)
 unfold zaj at H
 cases hG:G1 (zaK sc [v0]) μ with
 | stuck=>rw [hG] at H;exact H.elim
 | exc x μ'=>
  rw [hG] at H
  exact zin (r:=.exc x μ') ok rfl ⟨[⟨s.heap.objs.size+1,.pin oc⟩],rfl⟩ hgens hos hlen hth hIm ⟨[],by simp⟩ (fun a h=>.inl h) H
 | ok fl μ2=>
  rw [hG] at H
  cases fl with
  | ret v=>
   have:=zin (r:=.ok (.ret v) μ2) ok rfl ⟨[⟨s.heap.objs.size+1,.pin oc⟩],rfl⟩ hgens hos hlen hth hIm ⟨[],by simp⟩ (fun a h=>.inl h) H
   exact fun s' ρ' m' val S' l' g' r=>wpAny_pure (this s' ρ' m' val S' l' g' r)
  | next σ2=>
   intro s2 ρ2 m2 S2 l2 g2
   refine wpAny_execs_cons (wpAny_Assign_Name (wpAny_Dict_empty ?_) rfl)
   obtain ⟨S3,l3,g3⟩:=ziJ W S2 (.inr rfl)
   generalize hd:s2.heap.objs.size=b at *
   generalize hh3:s2.heap.push { cls:=.type "dict",data:=.dict #[] }=h3 at *
   have hpin:=S3.pinned (c:=c0)
   refine wpAny_storeName_cell (env:=c.env) F.kind hky (c:=s.heap.objs.size+1) (by show List.lookup y [(y,_)]=_;simp) ⟨oc,hpin,hocd⟩ fun h4 hc4 hs4=>?_
   obtain ⟨o4,ho4,hd4⟩:=hc4
   obtain ⟨S4,l4⟩:=S3.repin (c:=c0) (s':={ s2 with heap:=h4 }) (fun b ob hb e=>hs4.extBut b ob hb e) ho4
   have l34:zaG c ρ2 s2 { s2 with heap:=h4 }:=⟨fun a o e=>let ⟨o',e'⟩:=l3.1 a o e;l4.1 a o' e',fun a o e=>l4.2 a o (l3.im g3 a o e)⟩
   have l24:=l2.trans g2 l34
   have gr:zbj s1 ρ (ρ2 ++ [[b]]):=g2.trans g3 l2.1
   obtain ⟨e2,he2⟩:=zdR gr
   let c':Cx:=⟨A1,q,sc,s.heap.objs.size,f,fd.code,⟨s.heap.objs.size+1,.pin o4⟩ :: fs,ρ.length,[(y,s.heap.objs.size+1)],[(y,.ref b)]⟩
   have ok':zbx n c':=⟨ok0.frames,F.kind,C.handled,ok0.depth,ok0.units,F.names,fun x val h=>by
    have h':List.lookup x [(y,Value.ref b)]=some val:=h
    rw [List.lookup_cons] at h'
    split at h'
    ·cases h'
     rename_i hxy
     exact ⟨_,o4,by show List.lookup x [(y,s.heap.objs.size+1)]=_;rw [List.lookup_cons,hxy],List.mem_cons_self ..,hd4⟩
    ·cases h'⟩
   have S5:Stt κ c' { s2 with heap:=h4 } (σ2.set iy (some (.ref μ2.length))) (ρ2 ++ [[b]]) (μ2 ++ [.dcS []]) m2:=by
    refine ⟨S4.inv,fun i v hv=>?_,S4.nb,S4.gens,S4.os⟩
    rw [List.getElem?_set] at hv
    split at hv
    ·rename_i e
     subst e
     split at hv
     ·cases hv
      refine ⟨y,.cell,.ref b,hiy,by show List.lookup y [(y,Value.ref b)]=_;simp,.ref (l:=[]) ?_⟩
      rw [← S2.inv.len];simp
     ·cases hv
    ·rename_i e
     obtain ⟨z,kd,w,a1,a2,a3⟩:=S4.loc i v hv
     refine ⟨z,kd,w,a1,?_,a3⟩
     cases kd <;> first | exact a2.elim | exact a2 | skip
     exact absurd (honly _ _ a1).symm e
   refine h2.run c' rfl ok' _ _ _ _ _ _ _ S5 ?_
   replace H:zlQ κ s fs ρ (zaQ μ.length (G2 (σ2.set iy (some (.ref μ2.length))) (μ2 ++ [.dcS []]))) R:=H
   refine zin ok' rfl ⟨[⟨s.heap.objs.size+1,.pin o4⟩],rfl⟩ hgens hos hlen (fun a o e=>let ⟨o',e'⟩:=hth a o e;l24.1 a o' e') (fun a o e=>l24.imG (gr.grow (by show ρ.length≤ρ.length;exact Nat.le_refl _)) a o (hIm a o e)) ⟨e2,he2⟩ (fun a ha=>?_) H
   have:a∈ρ.flatten∨s1.heap.get? a=none:=(gr.grow (c:=c) (by show ρ.length≤ρ.length;exact Nat.le_refl _)).new a ha
   exact this.imp id fun q=>zd9.none hth q
theorem Stt.blindExt {κ:KK} {c:Cx} {s s':Shared} {σ:Loc} {ρ:List (List Addr)} {μ:Mem} {m m':Str→Option Value} (S:Stt κ c s σ ρ μ m) (hx:Heap.ExtBut c.L s.heap s'.heap) (hn:s'.heap.Ns c.L m')
  (hg:s'.gens=s.gens:=by rfl) (ho:s'.os=s.os:=by rfl):Stt κ c s' [] ρ μ m'∧zaG c ρ s s':=by
 have hl:zaG c ρ s s':=by
  refine ⟨fun a o e=>?_,fun a o ⟨x,_,z⟩=>hx a o (by simp [Cx.fr] at z;exact z.1) x⟩
  by_cases q:a=c.L
  ·subst q;obtain ⟨o',_,_,h',_⟩:=hn;exact ⟨o',h'⟩
  ·exact ⟨o,hx a o q e⟩
 have hk:c.env.scope.kind = .function:=(S.inv.ns ⟨c.L,.act c.env m⟩ (by simp [Cx.fs])).2.2
 exact ⟨⟨S.inv.ext (f:=⟨c.L,.act c.env m⟩) (f':=⟨c.L,.act c.env m'⟩) rfl hx ⟨hn,rfl,hk⟩,(fun i v h=>by simp at h),S.nb,hg.trans S.gens,ho.trans S.os⟩,hl⟩
noncomputable def zn3 (sc:Scope) (G:CF):List V→Mem→RE:=fun vs μ=>match G (zaK sc (vs ++ [])) μ with
 | .exc (.asm r w) μ'=>.ok (.d (.tup [.int r,.str w])) (μ'.take μ.length)
 | r=>zaQ μ.length r
noncomputable abbrev zoz (en:Str) (p1 p2 p3 p4 p5 p6:Pos) (k:Nat):Stmt:=.Return (some (.Tuple [.Attribute (.Name en p1) zcn p2,.Attribute (.Name en p3) zbM p4] k p5)) p6
section
variable {κ:KK} (W:WFC κ) (RI:zeJ κ) {n:Nat} {c:Cx} (ok:zbx n c) {s:Shared} {ρ:List (List Addr)} {μ:Mem} {r:Int} {w:List Nat} {a dx:Addr} {t:List Addr} {m:Str→Option Value} {A:Around} {x en:Str} {px p1 p2 p3 p4 p5 p6 p7:Pos} {k:Nat}
include W RI ok
theorem zsE (X:Exc κ c s ρ μ (.asm r w) a dx t m) (hx:κ.mg x=some (.ref κ.X)) (hk:c.sc.names.lookup x=some .globalImplicit) (hd:(x == ("__debug__":Str))=false) {R:Result→Shared→Prop} (H:R (.ok .brk) s) :
  codeAny (model pg κ.w) A (.handlers (.ref a) [.ExceptHandler (some (.Name x px)) none [] p7] c.env) R s:=by
 refine codeAny_handlers_test (ldG X.stt.fr W.glob hx ?_ ok.kind hk hd)
 obtain ⟨D⟩:=RI.obj
 obtain ⟨vs4,xs4,es4,n4,o1,o2,o3,o4,o5⟩:=X.ob.ob
 obtain ⟨hp4,g4,d4,tk4,os4⟩:=s
 refine wpAny_excMatches_sub_self (X.stt.inv.keep _ _ D.hC) o1 rfl (D.T.hasType (by decide)) ?_
 rw [if_pos rfl]
 exact H
theorem zsF {σ:Loc} {vs:Array Value} {es:List DictEntry} {nn:Nat} {y1 y2:Value} (S:Stt κ c s σ ρ μ m) (hme:m en=some (.ref a)) (hen:c.sc.names.lookup en=some .local) (hde:(en == ("__debug__":Str))=false)
  (v1:s.heap.get? a=some { cls:=.ref κ.X,dict:=some dx,data:=.fields vs,slots:=#[] }) (v2:s.heap.get? dx=some (dictOf es nn)) (g1:getL zcn es=some (some y1)) (g2:getL zbM es=some (some y2)) (z1:handedIn y1=true) (z2:handedIn y2=true)
  {Q:Flow→Shared→Prop} {E:Value→Shared→Prop} (H:Q (.ret (.ref s.heap.objs.size)) ⟨s.heap.push { cls:=.type "tuple",data:=.seq [y1,y2].toArray },s.gens,s.drawn,s.toks+1+1,s.os⟩) :
  wpAny (model pg κ.w) A (execs [zoz en p1 p2 p3 p4 p5 p6 k] c.env) Q E s:=by
 obtain ⟨h,g,d,tk,os⟩:=s
 refine wpAny_execs_cons (wpAny_Return_some (PySem.wpAny_Tuple (wpAny_items_cons (Attribute_any_ (ldE S.fr hme (zqA (s:=⟨h,_,_,_,_⟩) (W.inK.keeps S.inv.keep) RI S.inv.keep v1 v2 RI.a0 g1 z1 ?_) ok.kind hen hde)))))
 exact wpAny_items_cons (Attribute_any_ (ldE (s:=⟨h,_,_,_,_⟩) S.fr hme (zqA (s:=⟨h,_,_,_,_⟩) (W.inK.keeps S.inv.keep) RI S.inv.keep v1 v2 RI.a1 g2 z2 (wpAny_items_nil ⟨by show 2≤sizeLine;decide,H⟩)) ok.kind hen hde))
theorem zp1 (X:Exc κ c s ρ μ (.asm r w) a dx t m) (ht:t≠[]) (hx:κ.mg x=some (.ref κ.X)) (hk:c.sc.names.lookup x=some .globalImplicit) (hd:(x == ("__debug__":Str))=false) (hen:c.sc.names.lookup en=some .local) (hde:(en == ("__debug__":Str))=false)
  {Q:Flow→Shared→Prop} {E:Value→Shared→Prop} (H:∀ s8 m8 val,Stt κ c s8 [] (ρ ++ [a :: dx :: t]) (μ ++ [Xn.mo (.asm r w)]) m8→zaG c (ρ ++ [a :: dx :: t]) s s8→Rd κ.w (Im s8.heap (ρ ++ [a :: dx :: t]) c.fr) (.tup [.int r,.str w]) val→Q (.ret val) s8) :
  wpAny (model pg κ.w) A (handleBy (.ref a) c.env [.ExceptHandler (some (.Name x px)) (some en) [zoz en p1 p2 p3 p4 p5 p6 k] p7]) Q E s:=by
 have hp:(c.env.scope.kind == .class || (c.env.scope.kind == .module && c.env.locals != c.env.globals))=false:=by show (c.sc.kind == .class || (c.sc.kind == .module && c.L != mainGlobals))=false;rw [ok.kind];rfl
 refine wpAny_handleBy_cons (zsE W RI ok X hx hk hd (codeAny_handlers_suite_as (zhb X ht fun s5 X5 l5=>?_))) (by intro q;cases q)
 obtain ⟨vs5,xs5,es5,n5,w1,w2,w3,w4,w5⟩:=X5.ob.ob
 refine wpAny_storeName_local (env:=c.env) hen X5.stt.fr.ns (fun h6 hn6 hs6=>?_) hp
 obtain ⟨S6,l6⟩:=X5.stt.blindExt (s':={ s5 with heap:=h6,toks:=s5.toks+1 }) hs6.extBut hn6
 have hnd5:=X5.stt.inv.nodup
 rw [List.nodup_append] at hnd5
 have hmem:∀ b∈a :: dx :: t,b∈(ρ ++ [a :: dx :: t]).flatten:=fun b hb=>List.mem_flatten.mpr ⟨_,by simp,hb⟩
 have haL:a≠c.L:=fun e=>hnd5.2.2 a (hmem a (by simp)) c.L (by simp [Cx.fs]) e
 have hdL:dx≠c.L:=fun e=>hnd5.2.2 dx (hmem dx (by simp)) c.L (by simp [Cx.fs]) e
 rw [RI.xn] at w3
 obtain ⟨y1,y2,rfl,hy1,hy2⟩:∃ y1 y2,xs5=[y1,y2]∧Rd κ.w (Im s5.heap (ρ ++ [a :: dx :: t]) c.fr) (.int r) y1∧Rd κ.w (Im s5.heap (ρ ++ [a :: dx :: t]) c.fr) (.str w) y2:=by
  cases w4 with
  | cons a1 w4=>cases w4 with
   | cons a2 w4=>cases w4;exact ⟨_,_,rfl,a1,a2⟩
 have hnd2:[zcn,zbM].Nodup:=by decide
 refine zsF W RI ok S6 (en:=en) (a:=a) (by simp) hen hde (hs6.extBut a _ haL w1) (hs6.extBut dx _ hdL w2) (zlj w3 (i:=0) (x:=zcn) (v:=y1) hnd2 rfl rfl) (zlj w3 (i:=1) (x:=zbM) (v:=y2) hnd2 rfl rfl) hy1.handed hy2.handed ?_
 have hT:(h6.push { cls:=.type "tuple",data:=.seq [y1,y2].toArray }).get? h6.objs.size=some { cls:=.type "tuple",data:=.seq [y1,y2].toArray }:=Heap.get?_push_size _ rfl
 obtain ⟨S7,l7⟩:=S6.keeps (s':=⟨h6.push { cls:=.type "tuple",data:=.seq [y1,y2].toArray },s5.gens,s5.drawn,s5.toks+1+1+1,s5.os⟩) fun b o e=>Heap.get?_push_of_some _ e
 refine wpAny_nameGoes (env:=c.env) hen S7.fr.ns hp fun h8 m8 hn8 hs8=>?_
 obtain ⟨S8,l8⟩:=S7.blindExt (s':=⟨h8,s5.gens,s5.drawn,s5.toks+1+1+1+1,s5.os⟩) hs8.extBut hn8
 have l68:=l6.trans .refl (l7.trans .refl l8)
 have hnone:∀ b∈(ρ ++ [a :: dx :: t]).flatten ++ (c.fs m8).map (·.L),b≠h6.objs.size:=fun b hb e=>by
  have:=S6.inv.lt b hb
  rw [e] at this
  exact Nat.lt_irrefl _ this
 refine H _ _ _ S8 (l5.trans .refl l68) (.tup (a:=h6.objs.size) (o:={ cls:=.type "tuple",data:=.seq [y1,y2].toArray }) ⟨hs8.extBut _ _ (fun e=>hnone c.L (List.mem_append_right _ (by simp [Cx.fs])) e.symm) hT,fun q=>hnone _ (List.mem_append_left _ q) rfl,fun q=>hnone _ (List.mem_append_right _ q) rfl⟩ ⟨0,rfl⟩ (.cons (hy1.mono (l68.im .refl)) (.cons (hy2.mono (l68.im .refl)) .nil)))
end
theorem zwa {κ:KK} (W:WFC κ) (RI:zeJ κ) {n:Nat} {f:Addr} {st:Stmt} {x en:Str} {px p1 p2 p3 p4 p5 p6 p7 p8:Pos} {k:Nat} {sc:Scope} {q:Str} {ps:List Str}
  (F:ze7 κ f [.Try [st] [.ExceptHandler (some (.Name x px)) (some en) [zoz en p1 p2 p3 p4 p5 p6 k] p7] [] [] p8] sc q ps [])
  (hcell:∀ x∈sc.names,x.2≠.cell) (hx:κ.mg x=some (.ref κ.X)) (hk:sc.names.lookup x=some .globalImplicit) (hd:(x == ("__debug__":Str))=false) (hen:sc.names.lookup en=some .local) (hde:(en == ("__debug__":Str))=false) {G:CF} (hb:CE κ n sc [st] G) :
  zaU κ (n+1) f ps.length (zn3 sc G):=by
 refine ⟨?_⟩
 intro A fs s ρ μ vs vals R C I hgens hos rs hkl hsz H
 refine zlk W.toWF F hcell (dv:=[]) (fun x_ x_=>.nil) C I hgens hos rs hkl hsz fun c s1 m0 hc hnb hr ok S1 hth hIm=>?_
 subst hc
 subst hr
 have hlen:=I.len
 unfold zn3 at H
 refine wpAny_execs_cons (wpAny_Try_except ?_)
 refine hb.run c rfl ok _ μ ρ m0 s1 _ _ S1 ?_
 cases hG:G (zaK c.sc (vs ++ [])) μ with
 | stuck=>rw [hG] at H;exact H.elim
 | ok fl μ'=>
  rw [hG] at H
  have:=zin (r:=.ok fl μ') ok hnb ⟨[],rfl⟩ hgens hos hlen hth hIm ⟨[],by simp⟩ (fun a h=>.inl h) H
  cases fl with
  | next σ'=>exact fun s' ρ' m' S' l' g'=>wpAny_execs_nil (wpAny_execs_nil (this s' ρ' m' S' l' g'))
  | ret v=>exact fun s' ρ' m' val S' l' g' r=>this s' ρ' m' val S' l' g' r
 | exc xn μ'=>
  obtain ⟨r,w⟩:=xn
  rw [hG] at H
  intro s2 ρ2 m2 a fp S2 l2 g2 hnb2
  obtain ⟨dx,t,rfl,X2⟩:=Exc.of S2 hnb2
  refine zlg ok X2 fun s3 t3 ht3 X3 l3 g3=>zhb X3 ht3 fun s4 X4 l4=>?_
  refine zp1 W RI ok X4 ht3 hx hk hd hen hde fun s8 m8 val S8 l48 rd=>?_
  have g03:=g2.trans g3 l2.1
  have l08:=l2.transG g2 (l3.transG g3 (l4.trans .refl l48))
  have hρl:ρ2.length=μ'.length:=X4.idx.2
  have hnb':ρ.length≤μ'.length:=hnb▸hnb2
  have hpre:ρ2.take ρ.length=ρ:=by
   apply List.ext_getElem?
   intro k
   rcases Nat.lt_or_ge k ρ.length with z | z
   ·have:=g03.low k (hnb▸z)
    rw [List.getElem?_append_left (by lia)] at this
    rw [List.getElem?_take_of_lt z];exact this
   ·rw [List.getElem?_eq_none z,List.getElem?_eq_none (by rw [List.length_take];lia)]
  have hsplit:ρ2=ρ ++ ρ2.drop ρ.length:=by
   have:=(List.take_append_drop ρ.length ρ2).symm
   rw [hpre] at this;exact this
  have hIt:=Inv.tail (f:=⟨c.L,.act c.env m8⟩) S8.inv
  have hmid:=Inv.mid (ρ1:=ρ) (ρ2:=ρ2.drop ρ.length ++ [a :: dx :: t3]) (ρ3:=[]) (μ1:=μ'.take μ.length) (μ2:=μ'.drop μ.length ++ [Xn.mo (.asm r w)]) (μ3:=[]) (by
   rw [List.append_nil,List.append_nil,← List.append_assoc,← List.append_assoc,← hsplit,List.take_append_drop];exact hIt) (by rw [List.length_take];lia) (by simp;lia)
  rw [List.append_nil,List.append_nil] at hmid
  refine H _ _ hmid (fun b o e=>let ⟨o',e'⟩:=hth b o e;l08.1 b o' e') (fun b o e=>l08.2 b o (hIm b o e)) (S8.gens.trans hgens.symm) (S8.os.trans hos.symm) (.d (rd.mono fun b o ⟨x,y,z⟩=>⟨x,fun q=>y ?_,fun q=>z (List.mem_cons_of_mem _ q)⟩))
  rw [hsplit]
  simp only [List.flatten_append,List.mem_append]
  exact .inl (.inl q)
noncomputable def zoA (sc:Scope) (G:CF):List V→Mem→RE:=fun vs μ=>match G (zaK sc (vs ++ [])) μ with
 | .ok (.ret (.ref k)) μ'=>if μ.length≤k then match μ'[k]? with
  | some (.list ds)=>.ok (.ref (μ'.take μ.length).length) (μ'.take μ.length ++ [.list ds])
  | _=>.stuck
  else .stuck
 | _=>.stuck
theorem Inv.pick {κ:KK} {h:Heap} {fs:List Fm} {ρ e:List (List Addr)} {μ1 μe:Mem} (I:Inv κ h fs (ρ ++ e) (μ1 ++ μe)) (hl:ρ.length=μ1.length) {j:Nat} {l:List Addr} {o:MO} (h1:e[j]? = some l) (h2:μe[j]? = some o):Inv κ h fs (ρ ++ [l]) (μ1 ++ [o]):=by
 have hlen:=I.len
 simp only [List.length_append] at hlen
 have hj:=(List.getElem?_eq_some_iff.mp h1).1
 have e1:e=e.take j ++ [l] ++ e.drop (j+1):=by
  have:=List.getElem?_eq_some_iff.mp h1
  obtain ⟨_,rfl⟩:=this
  simp
 have hj2:=(List.getElem?_eq_some_iff.mp h2).1
 have e2:μe=μe.take j ++ [o] ++ μe.drop (j+1):=by
  obtain ⟨_,rfl⟩:=List.getElem?_eq_some_iff.mp h2
  simp
 have I1:=Inv.mid (ρ1:=ρ) (ρ2:=e.take j) (ρ3:=[l] ++ e.drop (j+1)) (μ1:=μ1) (μ2:=μe.take j) (μ3:=[o] ++ μe.drop (j+1)) (fs:=fs) (h:=h) (κ:=κ) (by
  have:ρ ++ e.take j ++ ([l] ++ e.drop (j+1))=ρ ++ e:=by rw [List.append_assoc,← List.append_assoc (e.take j),← e1]
  rw [this]
  have:μ1 ++ μe.take j ++ ([o] ++ μe.drop (j+1))=μ1 ++ μe:=by rw [List.append_assoc,← List.append_assoc (μe.take j),← e2]
  rw [this];exact I) hl (by rw [List.length_take,List.length_take];lia)
 have I2:=Inv.mid (ρ1:=ρ ++ [l]) (ρ2:=e.drop (j+1)) (ρ3:=[]) (μ1:=μ1 ++ [o]) (μ2:=μe.drop (j+1)) (μ3:=[]) (fs:=fs) (h:=h) (κ:=κ) (by
  rw [List.append_nil,List.append_nil,List.append_assoc,List.append_assoc];exact I1) (by simp;lia) (by rw [List.length_drop,List.length_drop];lia)
 rw [List.append_nil,List.append_nil] at I2
 exact I2
structure zn4 (κ:KK) (n:Nat) (f:Addr) (k:Nat) (Φ:List V→Mem→RE):Prop where
 run:∀ (A:Around) (fs:List Fm) (s:Shared) (ρ:List (List Addr)) (μ:Mem) (vs:List V) (vals:List Value) (R:Result→Shared→Prop),zjr κ n A fs→Inv κ s.heap fs ρ μ→s.gens = #[]→s.os=κ.os→RVs κ.w (Im s.heap ρ (fs.map (·.L))) ρ vs vals→vs.length=k→
  κ.B.objs.size≤s.heap.objs.size→(∃ μ1 ds,Φ vs μ = .ok (.ref μ1.length) (μ1 ++ [.list ds])∧μ1.length=μ.length∧∀ s' a,Inv κ s'.heap fs (ρ ++ [[a]]) (μ1 ++ [.list ds])→zd9 s s'→(∀ a o,Im s.heap ρ (fs.map (·.L)) a o→s'.heap.get? a=some o)→s'.gens=s.gens→s'.os=s.os→s.heap.get? a=none→R (.ok (.ret (.ref a))) s')→
  codeAny (model pg κ.w) A (.call (.ref f) ⟨vals,[]⟩) R s
set_option tactic.hygienic true in
theorem zxL {κ:KK} (W:WF κ) {n:Nat} {f:Addr} {body:List Stmt} {sc:Scope} {q:Str} {ps:List Str} (F:ze7 κ f body sc q ps []) (hcell:∀ x∈sc.names,x.2≠.cell) {G:CF} (hb:CE κ n sc body G) :
  zn4 κ (n+1) f ps.length (zoA sc G):=by
 refine ⟨?_⟩
 intro A fs s ρ μ vs vals R C I hgens hos rs hkl hsz H
 obtain ⟨μ1,ds,HΦ,hμ1,H⟩:=H
 refine zlk W F hcell (dv:=[]) (fun x_ x_=>.nil) C I hgens hos rs hkl hsz fun c s1 m hc hnb hr ok S1 hth hIm=>hb.run c hc ok _ μ ρ m s1 _ _ S1 ?_
 have hlen:=I.len
 unfold zoA at HΦ
 split at HΦ
 rotate_left
 ·cases HΦ
 rename_i k μ' hG
 split at HΦ
 rotate_left
 ·cases HΦ
 rename_i hkge
 split at HΦ
 rotate_left
 ·cases HΦ
 rename_i ds' hμk
 injection HΦ with _ inj
 obtain ⟨i1,i2⟩:=List.append_inj' inj rfl
 cases i2
 rw [hG]
 intro s' ρ' m' val S' l' g' r
 obtain ⟨e,rfl⟩:=zdR g'
 subst hr
 have I':=Inv.tail (f:=⟨c.L,.act c.env m'⟩) S'.inv
 have hl':=S'.inv.len
 rw [List.length_append] at hl'
 obtain ⟨l,hl,M⟩:=S'.inv.objs k _ hμk
 obtain ⟨a,ob,vs',rfl,g,b,cc⟩:=M.inv
 have hek:e[k - μ.length]? = some [a]:=by
  rw [List.getElem?_append_right (by lia)] at hl
  rw [← hlen];exact hl
 have hval:val = .ref a:=by
  obtain ⟨x,lx,rfl,eρ⟩:=r.inv
  rw [hl] at eρ;cases eρ;rfl
 subst hval
 have I2:=Inv.pick (μ1:=μ'.take μ.length) (μe:=μ'.drop μ.length) (by rw [List.take_append_drop];exact I') (by rw [List.length_take];lia) hek (o:=.list ds) (by
  rw [List.getElem?_drop,Nat.add_sub_cancel' hkge];exact hμk)
 rw [i1] at I2
 have hfresh:s.heap.get? a=none:=by
  obtain ⟨e',he',hn⟩:=g'
  have:e' = e:=List.append_cancel_left he'.symm
  subst this
  exact zd9.none hth (hn a (List.mem_flatten.mpr ⟨_,List.mem_of_getElem? hek,by simp⟩))
 exact H s' a I2 (fun b o z=>let ⟨o',z'⟩:=hth b o z;l'.1 b o' z') (fun b o z=>l'.2 b o (hIm b o z)) (S'.gens.trans hgens.symm) (S'.os.trans hos.symm) hfresh
noncomputable def zjv (Φ:List V→Mem→RE) (k:Nat) (Fs:List EF):EF:=fun σ μ=>(zbQ Fs σ μ).bind fun vs μ=>if vs.length=k then match Φ vs μ with
 | .ok (.ref j) μ'=>match μ'.getLast? with
  | some (.list ds)=>if μ'.dropLast.length=μ.length∧j=μ.length then .ok (.ref j) μ' else .stuck
  | _=>.stuck
 | _=>.stuck
 else .stuck
theorem zum {κ:KK} (W:WF κ) {n nF:Nat} {sc:Scope} {x:Str} {p pos:Pos} {f:Addr} {k:Nat} {Φ:List V→Mem→RE} {e:Expr} {es:List Expr} {Fs:List EF} (F:zn4 κ nF f k Φ) (hF:zgo κ f) (hn:nF≤n) (hx:κ.mg x=some (.ref f)) (hk:sc.names.lookup x=some .globalImplicit) (hd:(x == ("__debug__":Str))=false)
 (h:SEl κ n sc (e :: es) Fs):SE κ n sc (.Call (.Name x p) (e :: es) [] pos) (zjv Φ k Fs):=by
 refine ⟨?_⟩
 rintro c rfl ok σ μ ρ m s Q E S H
 obtain ⟨o,fd,ho,hfd⟩:=hF
 refine wpAny_Call_ofName (ldG S.fr W.glob hx ?_ ok.kind hk hd)
 cases h with
 | cons he h1 h2=>
 refine callWith_def hfd ((SEl.cons he h1 h2).next rfl ok S .refl .refl S.nbρ H fun vs μ1 s1 ρ1 vals S1 l1 g1 x_ x_ rs x_ H1=>⟨S1.inv.keep _ _ ho,?_⟩) (he _ _)
 split at H1
 rotate_left
 ·exact H1.elim
 rename_i hk1
 split at H1
 rotate_left
 ·exact H1.elim
 rename_i j μ' hΦ
 split at H1
 rotate_left
 ·exact H1.elim
 rename_i ds hds
 split at H1
 rotate_left
 ·exact H1.elim
 rename_i hc
 obtain ⟨hc1,rfl⟩:=hc
 have hμ:μ'.dropLast ++ [.list ds]=μ':=by
  obtain ⟨hne,e⟩:=List.getLast?_eq_some_iff.mp hds
  rw [e];simp
 refine wpAny_call (F.run c.A (c.fs m) s1 ρ1 μ1 vs vals _ (ok.call hn m) S1.inv S1.gens S1.os rs hk1 (Inv.size S1) ⟨μ'.dropLast,ds,by rw [hΦ,hc1,hμ],hc1,fun s' a I k1 k2 k3 k4 k5=>?_⟩)
 have hL:zaG c ρ1 s1 s':=⟨k1,k2⟩
 have gr:zbj s1 ρ1 (ρ1 ++ [[a]]):=⟨[[a]],rfl,by simpa using k5⟩
 have hIm:=hL.im gr
 rw [hμ] at I
 have hl:=S1.inv.len
 refine H1 s' _ (.ref a) ⟨I,S1.loc.mono hIm gr.get,?_,k3.trans S1.gens,k4.trans S1.os⟩ (l1.trans g1 hL) (g1.trans gr l1.1) (.ref (l:=[]) ?_)
 ·have:=S1.nb
  have h2:=I.len
  simp at h2
  lia
 ·rw [← hl];simp
theorem zoB {l:List (Str×NameKind)} {iy:Nat} (h:∀ i,i < l.length→(l[i]?.map (·.2)=some NameKind.cell→i=iy)) {i:Nat} {x:Str} (e:l[i]? = some (x,NameKind.cell)):i=iy:=
 h i (List.getElem?_eq_some_iff.mp e).1 (by rw [e];rfl)
noncomputable def zlm:Nat:=100000
theorem zqB:zlm=100000:=rfl
set_option genSizeOf false
set_option genInjectivity false
structure FnE (O:Nat→Addr→Nat→(List V→Mem→RE)→Prop) (P:Str→Addr→Prop) where
 x:Str
 lv:Nat
 k:Nat
 Φ:List V→Mem→RE
 f:Addr
 ok:O lv f k Φ
 g:P x f
structure Tb (κ:KK) where
 W:WFC κ
 R:zeJ κ
 rx:{x:Str // κ.mg x=some (.ref κ.X)}
 ats:List {p:Str×Nat // κ.names[p.2]? = some p.1}
 fns:List (FnE (zaU κ) fun x f=>zgo κ f∧κ.mg x=some (.ref f)):=[]
 mes:List (FnE (zaU κ) fun x f=>zgo κ f∧zlS κ x f):=[]
 fnN:List (FnE (zn4 κ) fun x f=>zgo κ f∧κ.mg x=some (.ref f)):=[]
 new:List (FnE (zaU κ) fun x f=>zui κ f∧κ.mg x=some (.ref κ.C)):=[]
 fl:Nat:=0
inductive EV:Expr→Type
 | name (x p):EV (.Name x p)
 | tup (es k p):EV (.Tuple es k p)
 | attr (o x p):EV (.Attribute o x p)
 | sub (o i p):EV (.Subscript o i p)
 | lst (es p):EV (.List es p)
 | slice (lo hi p):EV (.Slice lo hi none p)
 | call (f es p):EV (.Call f es [] p)
 | dict (p):EV (.Dict [] [] p)
 | other (e):EV e
noncomputable def ev:(e:Expr)→EV e
 | .Name x p=>.name x p
 | .Tuple es k p=>.tup es k p
 | .Attribute o x p=>.attr o x p
 | .Subscript o i p=>.sub o i p
 | .List es p=>.lst es p
 | .Slice lo hi none p=>.slice lo hi p
 | .Call f es [] p=>.call f es p
 | .Dict [] [] p=>.dict p
 | e=>.other e
noncomputable def bts:List {b:String×Value×(List D→Option D) // (∀ w,zeb w b.2.1 b.2.2)∧((∃ id,b.2.1 = .builtin id)∨∃ T,b.2.1 = .type T)∧b.1∈zfN∧bootBuiltins (Str.ofString b.1)=some b.2.1}:=
 [⟨("len",_,_),fun x_=>zvO,.inl ⟨_,rfl⟩,by decide,rfl⟩,⟨("str",_,_),fun x_=>zvP,.inr ⟨_,rfl⟩,by decide,rfl⟩,⟨("int",_,_),fun x_=>zvQ,.inr ⟨_,rfl⟩,by decide,rfl⟩,
 ⟨("isinstance",_,_),fun x_=>zvR,.inl ⟨_,rfl⟩,by decide,rfl⟩,⟨("sorted",_,_),fun x_=>zra,.inl ⟨_,rfl⟩,by decide,rfl⟩]
noncomputable def tys:List {x:String // x∈zfN∧bootBuiltins (Str.ofString x)=some (.type x)}:=[⟨"int",by decide,rfl⟩,⟨"bool",by decide,rfl⟩,⟨"str",by decide,rfl⟩,⟨"tuple",by decide,rfl⟩]
noncomputable def mts:List {m:Str×String×String×(List D→Option D) // zfb m.2.1 m.1 m.2.2.1∧∀ w,zeb w (.builtin m.2.2.1) m.2.2.2}:=
 [⟨(_,_,_,_),zsm,fun x_=>zt3⟩,⟨(_,_,_,_),zre,fun x_=>zvV⟩,⟨(_,_,_,_),zt6,fun x_=>zvW⟩,⟨(_,_,_,_),zrf,fun x_=>zsj⟩,⟨(_,_,_,_),zsl,fun x_=>zt2⟩]
noncomputable def zzQ:(o:Operator)→Option {op:D→D→Option D // ∀ w,zhL w o op}
 | .Add=>some ⟨_,fun x_=>zvD⟩
 | .Sub=>some ⟨_,fun x_=>zvE⟩
 | .Mult=>some ⟨_,fun x_=>zvF⟩
 | .FloorDiv=>some ⟨_,fun x_=>ztQ⟩
 | .Mod=>some ⟨_,fun x_=>zvG⟩
 | .Pow=>some ⟨_,fun x_=>zvH⟩
 | _=>none
structure Pl (e:Expr):Prop where
 star:∀ rest env,starEach (e :: rest) env=(false,eval e env) :: starEach rest env
 sub:∀ a b,subscripted e false a b=operate [a,b] (getItem a b)
 swap:∀ t l env,swapsWith e t l env=pure false
 fold:∀ env x,foldedSetIterable e env x=pure x
noncomputable def ckP (e:Expr):Option (PLift (Pl e)):=by cases e <;> first | exact some ⟨⟨fun x_ x_=>rfl,fun x_ x_=>rfl,fun x_ x_ x_=>rfl,fun x_ x_=>rfl⟩⟩ | exact none
noncomputable def zxM (e:Expr):Option (PLift (∀ env zbO,isTrue e env zbO=(do let v ← zbO;standAt e.pos;holding [v] (truthy v)))):=by cases e <;> first | exact some ⟨fun x_ x_=>rfl⟩ | exact none
theorem zsG {x:Str} {p pos:Pos} (h:(x != ("super":Str))=true) (name:Str) (env:Env) (m:Sem Value):attributeBase (.Call (.Name x p) [] [] pos) name env m=m:=
 if_pos (by rw [h];rfl)
noncomputable def zsH (o:Expr):Option (PLift (∀ name env m,attributeBase o name env m=m)):=match o with
 | .Name ..=>some ⟨fun x_ x_ x_=>rfl⟩
 | .Constant ..=>some ⟨fun x_ x_ x_=>rfl⟩
 | .Call (.Name x p) [] [] pos=>if h:(x != ("super":Str))=true then some ⟨fun x_ x_ x_=>zsG h _ _ _⟩ else none
 | _=>none
theorem zxN {κ:KK} {n:Nat} {sc:Scope} {o:Expr} {name:Str} {apos pos:Pos} {es:List Expr} {Fs:List EF} (hA:(apos.endLine == pos.line)=true) (hB:es.length < 30) (hE:SEl κ n sc es Fs)
  (hC:∀ name env m,attributeBase o name env m=m):MEq o name apos es pos:=by
 intro env
 have hf:methodCallForm (es.length+0) (backTo pos (starEach es env)) (backToKw pos (keywordEach [] env))=true:=by
  have h:=hE.plain (pos:=pos) (env:=env)
  have h2:(backTo pos (starEach es env)).all (!·.1)=true:=by rw [List.all_eq_not_any_not];simp only [Bool.not_not];rw [h];rfl
  show (((backTo pos (starEach es env)).all (!·.1) && true) && decide (es.length+0+0 < 30))=true
  rw [h2];exact decide_eq_true hB
 refine ⟨(do return (← importBound o env).getD true),?_⟩
 show (attributeBase o name env (eval o env) >>= fun ov=>standAt apos.atName >>= fun x_=>methodCall o name apos pos env ov (es.length+0) (backTo pos (starEach es env)) (backToKw pos (keywordEach [] env)))=_
 rw [hC]
 unfold methodCall calleeOf methodCallPos
 rw [hf,hA]
 rfl
theorem zwb {e:Expr} (hC:∀ name env m,attributeBase e name env m=m) (name:Str) (pos:Pos) (env:Env):eval (.Attribute e name pos) env=(do
   let o ← eval e env
   standAt pos.atName
   let r ← holding [o] (getAttr o name true)
   letTemporaryGo e o r
   pure r):=by
 show (attributeBase e name env (eval e env) >>= _)=_
 rw [hC]
theorem zwc {a b:Str} (h:a.cps.toList=b.cps.toList):a=b:=congrArg Str.mk (Array.toList_inj.mp h)
noncomputable def eqS (a b:Str):Option (PLift (a=b)):=if h:a.cps.toList=b.cps.toList then some ⟨zwc h⟩ else none
noncomputable def fnd {α:Type} (key:α→Str) (x:Str):List α→Option {a:α // key a=x}
 | []=>none
 | a :: l=>match eqS (key a) x with
  | some h=>some ⟨a,h.down⟩
  | none=>fnd key x l
noncomputable def zoC (x:Str):(l:List (Str×NameKind))→Option {p:Nat×NameKind // l[p.1]? = some (x,p.2)}
 | []=>none
 | (y,k) :: l=>match eqS y x with
  | some h=>some ⟨(0,k),by rw [h.down];rfl⟩
  | none=>(zoC x l).map fun p=>⟨(p.1.1+1,p.1.2),p.2⟩
section
variable {κ:KK} {n:Nat} {sc:Scope}
noncomputable abbrev Gl (sc:Scope) (x:Str):Prop:=sc.names.lookup x=some .globalImplicit∧(x == ("__debug__":Str))=false
noncomputable abbrev Ce (κ:KK) (n:Nat) (sc:Scope) (e:Expr):Type:=Option {F:EF // SE κ n sc e F}
noncomputable abbrev Ct (κ:KK) (n:Nat) (sc:Scope) (e:Expr):Type:=Option {F:TF // ST κ n sc e F}
noncomputable abbrev Cs (κ:KK) (n:Nat) (sc:Scope) (st:Stmt):Type:=Option {G:CF // CS κ n sc st G}
noncomputable def zln (sc:Scope) (x:Str):Option {i:Nat // sc.names[i]? = some (x,NameKind.local)}:=(zoC x sc.names).bind fun p=>if h:p.1.2 = .local then some ⟨p.1.1,h▸p.2⟩ else none
noncomputable def cEl (r:∀ e,Ce κ n sc e):(es:List Expr)→Option {Fs:List EF // SEl κ n sc es Fs}
 | []=>some ⟨[],.nil⟩
 | e :: es=>(ckP e).bind fun h=>(r e).bind fun q=>(cEl r es).map fun p=>⟨q.1 :: p.1,.cons h.down.star q.2 p.2⟩
noncomputable def cEs (r:∀ e,Ce κ n sc e):(es:List Expr)→Option {Fs:List EF // SEs κ n sc es Fs}
 | []=>some ⟨[],.nil⟩
 | e :: es=>(r e).bind fun q=>(cEs r es).map fun p=>⟨q.1 :: p.1,.cons q.2 p.2⟩
noncomputable def cTs (t:∀ e,Ct κ n sc e):(es:List Expr)→Option {Fs:List TF // STs κ n sc es Fs}
 | []=>some ⟨[],.nil⟩
 | e :: es=>(t e).bind fun q=>(cTs t es).map fun p=>⟨q.1 :: p.1,.cons q.2 p.2⟩
noncomputable def cSp (r:∀ e,Ce κ n sc e):(o:Option Expr)→Option {F:Option EF // SP κ n sc o F}
 | none=>some ⟨none,.no⟩
 | some e=>(r e).map fun q=>⟨some q.1,.yes q.2⟩
noncomputable def zro (sc:Scope):(es:List Expr)→Option {is:List Nat // Nms sc es is}
 | []=>some ⟨[],.nil⟩
 | e :: es=>match e,ev e with
  | _,.name x p=>(zln sc x).bind fun i=>(zro sc es).map fun is=>⟨i.1 :: is.1,.cons i.2 is.2⟩
  | _,_=>none
noncomputable def zy9 (T:Tb κ) (x:Str) (pos:Pos):Ce κ n sc (.Name x pos):=if hd:(x == ("__debug__":Str))=false then
  match zln sc x with
  | some i=>some ⟨zae i.1,zsa i.2 hd⟩
  | none=>if hl:sc.names.lookup x=some .cell then (zoC x sc.names).bind fun p=>if h:p.1.2 = .cell then some ⟨zae p.1.1,zvC (h▸p.2) hd hl⟩ else none
   else if hk:sc.names.lookup x=some .globalImplicit then (fnd (fun b=>Str.ofString b.1) x tys).map fun b=>⟨zac (.ty b.1.1),by obtain ⟨b,rfl⟩:=b;exact zy6 T.W.toWF b.2.1 b.2.2 hk hd⟩ else none
 else none
noncomputable def zza (T:Tb κ) (r:∀ e,Ce κ n sc e) (x:Str) (p pos:Pos) (es:List Expr):Ce κ n sc (.Call (.Name x p) es [] pos):=
 if hd:Gl sc x then match fnd (·.x) x T.fns,es with
  | some a,es=>if hl:a.1.lv≤n then (cEl r es).map fun q=>⟨zaw a.1.Φ a.1.k q.1,by obtain ⟨a,rfl⟩:=a;exact zqy T.W.toWF a.ok a.g.1 hl a.g.2 hd.1 hd.2 q.2⟩ else none
  | none,e :: es=>(cEl r (e :: es)).bind fun q=>match fnd (·.x) x T.new with
   | some a=>if hl:a.1.lv+1≤n then some ⟨zmG a.1.Φ a.1.k q.1,by obtain ⟨a,rfl⟩:=a;exact zxG T.W a.g.1 a.ok hl a.g.2 hd.1 hd.2 q.2⟩ else none
   | none=>(fnd (fun b=>Str.ofString b.1.1) x bts).map fun b=>⟨zaI b.1.1.2.2 q.1,by obtain ⟨b,rfl⟩:=b;exact zt0 T.W.toWF (b.2.1 _) b.2.2.1 b.2.2.2.1 b.2.2.2.2 hd.1 hd.2 q.2⟩
  | none,[]=>none
 else none
noncomputable def zzb (T:Tb κ) (r:∀ e,Ce κ n sc e) (o:Expr) (x:Str) (a pos:Pos) (es:List Expr):Ce κ n sc (.Call (.Attribute o x a) es [] pos):=
 if hA:(a.endLine == pos.line)=true then if hB:es.length < 30 then (cEl r es).bind fun q=>(zsH o).bind fun hC=>(r o).bind fun O=>
  have he:MEq o x a es pos:=zxN hA hB q.2 hC.down
  match fnd (fun m=>m.1.1) x mts with
  | some m=>some ⟨zb9 m.1.1.2.1 m.1.1.2.2.2 O.1 q.1,by obtain ⟨m,rfl⟩:=m;exact zvU T.W.toWF m.2.1 (m.2.2 _) he O.2 q.2⟩
  | none=>match fnd (·.x) x T.mes with
   | some m=>if hl:m.1.lv≤n then some ⟨zaS m.1.Φ m.1.k O.1 q.1,by obtain ⟨m,rfl⟩:=m;exact zuh T.W m.g.2 m.ok m.g.1 hl he O.2 q.2⟩ else none
   | none=>match es,he with
    | [],he=>match eqS (Str.ofString "pop") x with
     | some h=>some ⟨zoo O.1,by obtain ⟨rfl⟩:=h;exact zxB T.W.toWF he O.2⟩
     | none=>(eqS (Str.ofString "reverse") x).map fun h=>⟨zop O.1,by obtain ⟨rfl⟩:=h;exact zxC T.W.toWF he O.2⟩
    | [e],he=>(eqS (Str.ofString "append") x).bind fun h=>(ckP e).bind fun hs=>(r e).map fun (q:{F:EF // SE κ n sc e F})=>⟨zbH O.1 q.1,by obtain ⟨rfl⟩:=h;exact zvX T.W.toWF he hs.down.star O.2 q.2⟩
    | _,_=>none
 else none else none
noncomputable def zzR (T:Tb κ) (scope:Scope) (x:Str) (hk:scope.kind = .function) (hx:scope.names.lookup x=some .local) (hd:(x == ("__debug__":Str))=false) (e:Expr):Option {p:(Loc→Bool)×(Loc→Mem→D→Option D) // zlU κ n sc scope x e p.1 p.2}:=
 match e,ev e with
 | _,.tup [a,b] k p2=>match a,b,ev a,ev b with
  | _,_,.name x1 p1,.sub c d p5=>match c,d,ev c,ev d with
   | _,_,.name y p3,.name x2 p4=>(eqS x x1).bind fun h1=>(eqS x x2).bind fun h2=>(zoC y sc.names).bind fun i=>(scope.names.head?).bind fun z=>
    if h:i.1.2 = .cell∧scope.names=[(z.1,.local),(x,.local),(y,.free)]∧scope.names.lookup y=some .free∧sc.names.lookup y=some .cell∧(y == ("__debug__":Str))=false then
    some ⟨(zdr i.1.1,zrl i.1.1),by obtain ⟨rfl⟩:=h1;obtain ⟨rfl⟩:=h2;exact zv8 T.W.toWF h.2.1 hk hx h.2.2.1 (h.1▸i.2) h.2.2.2.1 hd h.2.2.2.2⟩ else none
   | _,_,_,_=>none
  | _,_,_,_=>none
 | _,.lst [a,b] p2=>match a,b,ev a,ev b with
  | _,_,.name x1 p1,.sub c d p5=>match c,d,ev c,ev d with
   | _,_,.name y p3,.name x2 p4=>(eqS x x1).bind fun h1=>(eqS x x2).bind fun h2=>(zoC y sc.names).bind fun i=>(scope.names.head?).bind fun z=>
    if h:i.1.2 = .cell∧scope.names=[(z.1,.local),(x,.local),(y,.free)]∧scope.names.lookup y=some .free∧sc.names.lookup y=some .cell∧(y == ("__debug__":Str))=false then
    some ⟨(zdr i.1.1,zrm i.1.1),by obtain ⟨rfl⟩:=h1;obtain ⟨rfl⟩:=h2;exact zv9 T.W.toWF h.2.1 hk hx h.2.2.1 (h.1▸i.2) h.2.2.2.1 hd h.2.2.2.2⟩ else none
   | _,_,_,_=>none
  | _,_,_,_=>none
 | _,.call a [b] p3=>match a,b,ev a,ev b with
  | _,_,.name y p1,.name x1 p2=>(eqS x x1).bind fun h1=>(eqS (Str.ofString "list") y).bind fun h2=>if h:(∀ y∈scope.names,y.2≠.free)∧scope.names.lookup (Str.ofString "list")=some .globalImplicit then
   some ⟨(fun x_=>true,zgq),by obtain ⟨rfl⟩:=h1;obtain ⟨rfl⟩:=h2;exact zrn T.W.toWF h.1 hk hx h.2 hd⟩ else none
  | _,_,_,_=>none
 | _,_=>none
noncomputable def zzc (T:Tb κ) (r:∀ e,Ce κ n sc e) (elt:Expr) (gens:List Comprehension) (scope:Scope) (pos:Pos):Ce κ n sc (.ListComp elt gens scope pos):=match gens with
 | [⟨t,iter,[],a⟩]=>match t,ev t with
  | _,.name x px=>(ckP iter).bind fun hs=>(r iter).bind fun F=>if h:a=0∧(∀ y∈scope.names,y.2≠.cell)∧(∀ y∈scope.names,y.2 = .local→scope.names.lookup y.1=some .local) then
   if hk:scope.kind = .function∧scope.names.lookup x=some .local∧(x == ("__debug__":Str))=false then
    (zzR T scope x hk.1 hk.2.1 hk.2.2 elt).map fun q=>⟨zeY q.1.1 F.1 q.1.2,by obtain ⟨rfl,h1,h2⟩:=h;exact zv7 hs.down.fold h1 hk.1 h2 hk.2.1 F.2 q.2⟩
   else none else none
  | _,_=>none
 | _=>none
noncomputable def zxO (T:Tb κ) (r:∀ e,Ce κ n sc e) (a:Expr) (ops:List CmpOp) (es:List Expr) (pos:Pos):Option ({F:EF // SE κ n sc (.Compare a ops es pos) F}×{F:TF // ST κ n sc (.Compare a ops es pos) F}):=match ops,es with
 | [c],[b]=>if hm:behindInMarks c b=false then (r a).bind fun F=>(r b).map fun G=>(⟨zai (opC c) F.1 G.1,zxl T.W.toWF hm F.2 G.2⟩,⟨tst (zai (opC c) F.1 G.1),zxm T.W.toWF hm F.2 G.2⟩) else none
 | [c1,c2],[b,d]=>if hm:behindInMarks c2 d=false then (r a).bind fun F=>(r b).bind fun G=>(r d).map fun H=>(⟨kB (zcO c1 c2 F.1 G.1 H.1),zvL T.W.toWF hm F.2 G.2 H.2⟩,⟨zcO c1 c2 F.1 G.1 H.1,zvK T.W.toWF hm F.2 G.2 H.2⟩) else none
 | _,_=>none
noncomputable def zzS (T:Tb κ) (r:∀ e,Ce κ n sc e) (e sl:Expr) (pos:Pos):Ce κ n sc (.Subscript e sl pos):=(r e).bind fun F=>match sl,ev sl with
 | _,.slice lo hi p=>(cSp r lo).bind fun L=>(cSp r hi).map fun H=>⟨zb5 F.1 L.1 H.1,ztW T.W.toWF F.2 L.2 H.2⟩
 | sl,_=>(ckP sl).bind fun h=>(r sl).map fun G=>⟨zai zap F.1 G.1,zvM T.W.toWF h.down.sub F.2 G.2⟩
noncomputable def zxP (T:Tb κ) (r:∀ e,Ce κ n sc e) (t:∀ e,Ct κ n sc e):(e:Expr)→Ce κ n sc e
 | .Name x pos=>zy9 T x pos
 | .Constant c i pos=>match h:cst c with
  | some x=>some ⟨zac x,zoe h⟩
  | none=>none
 | .BinOp a op b pos=>(zzQ op).bind fun o=>(r a).bind fun F=>(r b).map fun G=>⟨zai o.1 F.1 G.1,zxh T.W.toWF (o.2 _) F.2 G.2⟩
 | .UnaryOp o e pos=>(r e).bind fun F=>match o with
  | .Not=>some ⟨kB (zdd (tst F.1)),zxt F.2⟩
  | .USub=>some ⟨zcW F.1,zxu F.2⟩
  | _=>none
 | .BoolOp o es pos=>if h0:es≠[] then (cEs r es).map fun F=>match o with
   | .And=>⟨kB (zbt (zcu F.1)),zxs h0 F.2⟩
   | .Or=>⟨kB (kOr (zcu F.1)),zy5 h0 F.2⟩
  else none
 | .IfExp e a b pos=>(t e).bind fun F=>(r a).bind fun G=>(r b).map fun H=>⟨zbE F.1 G.1 H.1,ztU F.2 G.2 H.2⟩
 | .Compare a ops es pos=>(zxO T r a ops es pos).map (·.1)
 | .Subscript e sl pos=>zzS T r e sl pos
 | .Attribute e x pos=>(zsH e).bind fun hC=>(fnd (·.1.1) x T.ats).bind fun a=>(r e).map fun F=>⟨zec a.1.1.2 F.1,by obtain ⟨a,rfl⟩:=a;exact zv3 T.W a.2 (zwb hC.down _ _) F.2⟩
 | .Tuple es k pos=>if hl:es.length≤1000 then (cEl r es).map fun F=>⟨zaW F.1,zxy hl F.2⟩ else none
 | .List es pos=>if hl:es.length≤1000 then (cEl r es).map fun F=>⟨zbF F.1,zsf hl F.2⟩ else none
 | .ListComp e g s pos=>zzc T r e g s pos
 | .JoinedStr es pos=>match es with
  | a :: b :: es=>(cEs r (a :: b :: es)).map fun F=>⟨zcc F.1 [],zsg F.2⟩
  | _=>none
 | .FormattedValue e c f pos=>if h:c = -1∧f.isNone=true then (r e).map fun F=>⟨zde F.1,by obtain ⟨rfl,h⟩:=h;cases Option.isNone_iff_eq_none.mp h;exact zxz F.2⟩ else none
 | .Call f es kw pos=>match kw with
  | []=>match f,ev f with
   | _,.name x p=>zza T r x p pos es
   | _,.attr o x a=>zzb T r o x a pos es
   | _,_=>none
  | _=>none
 | _=>none
noncomputable def zxQ (T:Tb κ) (r:∀ e,Ce κ n sc e) (t:∀ e,Ct κ n sc e) (e:Expr):Ct κ n sc e:=match e with
 | .UnaryOp .Not e pos=>(t e).map fun F=>⟨zdd F.1,zxo F.2⟩
 | .BoolOp o es pos=>(cTs t es).map fun F=>match o with
  | .And=>⟨zbt F.1,zxq F.2⟩
  | .Or=>⟨kOr F.1,zy4 F.2⟩
 | .Compare a ops es pos=>(zxO T r a ops es pos).map (·.2)
 | e=>(zxM e).bind fun h=>(r e).map fun F=>⟨tst F.1,zxn h.down F.2⟩
noncomputable def cX (T:Tb κ):Nat→(∀ e,Ce κ n sc e)×(∀ e,Ct κ n sc e)
 | 0=>(fun x_=>none,fun x_=>none)
 | k+1=>(zxP T (cX T k).1 (cX T k).2,zxQ T (cX T k).1 (cX T k).2)
noncomputable def cC (s:∀ st,Cs κ n sc st):(sts:List Stmt)→Option {G:CF // CE κ n sc sts G}
 | []=>some ⟨zaz,zsn⟩
 | st :: rest=>(s st).bind fun G=>(cC s rest).map fun H=>match rest,H with
  | [],_=>⟨G.1,zso G.2⟩
  | _ :: _,H=>⟨zaj G.1 H.1,zvY G.2 H.2⟩
noncomputable def zzT:List Expr→Bool
 | .Tuple .. :: _=>true
 | _=>false
noncomputable def rhs (T:Tb κ) (r:∀ e,Ce κ n sc e) (e:Expr):Ce κ n sc e:=match e,ev e with
 | _,.lst es pos=>if hl:es.length≤1000 then (cEl r es).map fun F=>bif zzT es then ⟨zbF F.1,zsf hl F.2⟩ else ⟨zdM F.1,zvN hl F.2⟩ else none
 | _,.dict pos=>some (if T.fl=1 then ⟨zgN,ztY T.W.toWF⟩ else ⟨zim,ztX T.W.toWF⟩)
 | _,.call f (e :: es) pos=>match f,ev f with
  | _,.name x p=>match fnd (·.x) x T.fnN with
   | some a=>if hd:Gl sc x∧a.1.lv≤n then (cEl r (e :: es)).map fun q=>⟨zjv a.1.Φ a.1.k q.1,by obtain ⟨a,rfl⟩:=a;exact zum T.W.toWF a.ok a.g.1 hd.2 a.g.2 hd.1.1 hd.1.2 q.2⟩ else none
   | none=>r _
  | _,_=>r _
 | _,.sub e i pos=>match i,ev i with
  | _,.slice lo hi p=>if T.fl=2 then (r e).bind fun F=>(cSp r lo).bind fun L=>(cSp r hi).map fun H=>⟨zio F.1 L.1 H.1,zsA T.W.toWF F.2 L.2 H.2⟩ else r _
  | _,_=>r _
 | e,_=>r e
noncomputable def zzU (T:Tb κ) (r:∀ e,Ce κ n sc e) (t e:Expr) (pos:Pos):Cs κ n sc (.Assign [t] e pos):=(ckP e).bind fun hs=>match t,ev t with
 | _,.name x p=>(zln sc x).bind fun i=>(rhs T r e).map fun F=>⟨zam (zat i.1) F.1,zsq (hs.down.swap _ _) i.2 F.2⟩
 | _,.tup es k p=>match e,ev e,hs with
  | _,.name x q,hs=>(zro sc es).bind fun is=>(r (.Name x q)).map fun F=>⟨zam (zdI is.1) F.1,znd (fun env=>hs.down.swap (some (.Tuple es k p)) pos.line env) (fun x_=>rfl) is.2 F.2⟩
  | _,.sub a b q,hs=>(zro sc es).bind fun is=>(r (.Subscript a b q)).map fun F=>⟨zam (zdI is.1) F.1,znd (fun env=>hs.down.swap (some (.Tuple es k p)) pos.line env) (fun x_=>rfl) is.2 F.2⟩
  | _,_,_=>none
 | _,.attr o x p=>(fnd (·.1.1) x T.ats).bind fun a=>(r e).bind fun F=>(r o).map fun O=>⟨ziN a.1.1.2 F.1 O.1,by obtain ⟨a,rfl⟩:=a;exact zv4 T.W a.2 (hs.down.swap _ _) F.2 O.2⟩
 | _,.sub o i p=>(r e).bind fun F=>(r o).bind fun O=>(r i).map fun I=>⟨zeH F.1 O.1 I.1,zud (hs.down.swap _ _) F.2 O.2 I.2⟩
 | _,_=>none
noncomputable def zzV (T:Tb κ) (r:∀ e,Ce κ n sc e) (t e:Expr) (pos:Pos):Cs κ n sc (.AugAssign t .Add e pos):=(r e).bind fun F=>match t,ev t with
 | _,.name x p=>(zln sc x).map fun i=>match e,ev e,F with
  | _,.lst _ _,F=>⟨zlN i.1 F.1,zv2 i.2 F.2⟩
  | _,_,F=>⟨zhr i.1 F.1,zxD i.2 F.2⟩
 | _,.attr o x p=>(fnd (·.1.1) x T.ats).bind fun a=>(r o).map fun O=>⟨zlP a.1.1.2 O.1 F.1,by obtain ⟨a,rfl⟩:=a;exact zv5 T.W a.2 O.2 F.2⟩
 | _,_=>none
noncomputable def rTg (κ:KK) (n:Nat) (sc:Scope) (t:Expr):Option {B:V→Loc→Option Loc // Tg κ n sc t B∧zrh t}:=match t,ev t with
 | _,.name x p=>(zln sc x).map fun i=>⟨zat i.1,zmD i.2,zv1⟩
 | _,.tup es k p=>(zro sc es).map fun is=>⟨zdI is.1,zsp is.2,zt8⟩
 | _,_=>none
noncomputable def zrp (T:Tb κ) (r:∀ e,Ce κ n sc e) (t iter:Expr) (body:List Stmt) (G:{G:CF // CE κ n sc body G}) (pos:Pos):Cs κ n sc (.For t iter body [] pos):=
 (rTg κ n sc t).bind fun B=>(ckP iter).bind fun hf=>(r iter).map fun F=>⟨zhc F.1 B.1 G.1,zpY hf.down.fold B.2.2 F.2 B.2.1 G.2⟩
noncomputable def zzW (T:Tb κ) (r:∀ e,Ce κ n sc e) (t iter:Expr) (body:List Stmt) (G:{G:CF // CE κ n sc body G}) (pos:Pos):Cs κ n sc (.For t iter body [] pos):=match t,ev t with
 | _,.name x p=>match iter,ev iter with
  | _,.call f [e] cp=>match f,ev f with
   | _,.name y q=>match eqS (Str.ofString "range") y with
    | some h=>if hk:sc.names.lookup (Str.ofString "range")=some .globalImplicit then (zln sc x).bind fun i=>(ckP e).bind fun he=>(r e).map fun F=>
     ⟨zex F.1 (zat i.1) G.1,by obtain ⟨rfl⟩:=h;exact zoq T.W.toWF (fun x_ x_=>rfl) (fun x_ x_=>rfl) hk he.down.star F.2 (zmD i.2) G.2⟩ else none
    | none=>none
   | _,_=>zrp T r _ _ body (bif T.fl == 1 then ⟨ziO G.1,zxK G.2⟩ else G) pos
  | iter,_=>if T.fl=3 then (zln sc x).bind fun i=>(ckP iter).bind fun hf=>(r iter).map fun F=>⟨zlM F.1 (zat i.1) G.1,zri hf.down.fold (fun x_ x_=>rfl) F.2 (zmD i.2) G.2⟩ else zrp T r _ iter body G pos
 | t,_=>zrp T r t iter body G pos
noncomputable def zxR (T:Tb κ) (r:∀ e,Ce κ n sc e) (e:Expr) (pos:Pos):Cs κ n sc (.Raise (some e) none pos):=match e,ev e with
 | _,.call f [a,b] cp=>match f,ev f with
  | _,.name x p=>match eqS T.rx.1 x with
   | some h=>if hd:Gl sc x then (ckP a).bind fun ha=>(ckP b).bind fun hb=>(r a).bind fun F=>(r b).map fun G=>
    ⟨zdy F.1 G.1,by obtain ⟨rfl⟩:=h;exact zul T.W T.R T.rx.2 hd.1 hd.2 ha.down.star hb.down.star F.2 G.2⟩ else none
   | none=>some ⟨zjs,zll⟩
  | _,_=>some ⟨zjs,zll⟩
 | _,_=>some ⟨zjs,zll⟩
noncomputable def zxS (T:Tb κ) (r:∀ e,Ce κ n sc e) (t:∀ e,Ct κ n sc e) (s:∀ st,Cs κ n sc st):(st:Stmt)→Cs κ n sc st
 | .Return (some e) pos=>(r e).map fun F=>⟨zaq F.1,zsr F.2⟩
 | .Assign [t] e pos=>zzU T r t e pos
 | .AugAssign t .Add e pos=>zzV T r t e pos
 | .For t iter body [] pos=>(cC s body).bind fun G=>zzW T r t iter body G pos
 | .While e body [] pos=>(t e).bind fun F=>(cC s body).map fun G=>⟨zc3 F.1 G.1 zlm,zt9 F.2 G.2 zlm⟩
 | .If e a b pos=>(t e).bind fun F=>(cC s a).bind fun G=>(cC s b).map fun H=>⟨kIf F.1 G.1 H.1,zy8 F.2 G.2 H.2⟩
 | .Raise (some e) none pos=>zxR T r e pos
 | .Expr e pos=>(ckP e).bind fun h=>(r e).map fun F=>⟨zaY F.1,zv0 (h.down.swap _ _) F.2⟩
 | _=>none
noncomputable def cS (T:Tb κ):Nat→(st:Stmt)→Cs κ n sc st
 | 0,_=>none
 | k+1,st=>zxS T (cX T 20).1 (cX T 20).2 (cS T k) st
theorem ziP (T:Tb κ) {sts:List Stmt} {G:CF} (h:(cC (n:=n) (sc:=sc) (cS T 12) sts).map (·.1)=some G):CE κ n sc sts G:=by
 obtain ⟨q,_,rfl⟩:=Option.map_eq_some_iff.mp h
 exact q.2
end
noncomputable def KK.ad (κ:KK) (n:Nat):Addr:=bif n.blt 52 then κ.fa n else κ.ma (n - 52)
noncomputable def zsI (sc:Scope):Bool:=sc.names.all fun x=>decide (x.2≠.cell)
structure PG (κ:KK):Prop extends WFC κ where
 n0:κ.names[0]? = some (Str.ofString "tokens")
 n1:κ.names[1]? = some (Str.ofString "row")
 n2:κ.names[2]? = some (Str.ofString "place")
 cls:zui κ (κ.ma 0)
 gC:κ.mg (Str.ofString "RowReader")=some (.ref κ.C)
 gX:κ.mg (Str.ofString "AsmError")=some (.ref κ.X)
 rais:zeJ κ
 fs:∀ n,fI.elem n=true→ze7 κ (κ.ad n) (zcl (sOf n)) (zar (sOf n)) (fQ n) (fP n) []
 gs:∀ n,gI.elem n=true→κ.mg (fN n)=some (.ref (κ.fa n))
 Ms:∀ n,(n.blt 11 && Nat.blt 0 n)=true→zlS κ (fN (n+52)) (κ.ma n)
 fR0:ze7 κ (κ.fa 34) (zcl (zaE 34)) (zar (zaE 34)) (fN 34) (fP 34) []
 fR1:ze7 κ (κ.fa 34) (zcl (zaE 34)) (zar (zaE 34)) (fN 34) (fP 34) [.str (Str.ofString "") 619]
 fL:ze7 κ (κ.fa 39) (zcl (zaE 39)) (zar (zaE 39)) (fN 39) (fP 39) []
theorem zun {sc:Scope} (h:zsI sc=true):∀ x∈sc.names,x.2≠.cell:=fun x hx=>of_decide_eq_true (List.all_eq_true.mp h x hx)
noncomputable def feI {κ:KK} (P:PG κ) (n:Nat) (h:gI.elem n=true) (i:zgo κ (κ.fa n)) {lv k:Nat} {Φ:List V→Mem→RE} (ok:zaU κ lv (κ.fa n) k Φ):FnE (zaU κ) fun x f=>zgo κ f∧κ.mg x=some (.ref f):=⟨fN n,lv,k,Φ,κ.fa n,ok,i,P.gs n h⟩
theorem zuo {κ:KK} (P:PG κ) (n:Nat) (h:(fI.elem n && n.blt 52)=true):zgo κ (κ.fa n):=by
 obtain ⟨h1,h2⟩:=Bool.and_eq_true_iff.mp h
 have:=(P.fs n h1).isFn
 unfold KK.ad at this
 rw [h2] at this
 exact this
noncomputable def fe {κ:KK} (P:PG κ) (n:Nat) (h:(fI.elem n && n.blt 52)=true) (g:gI.elem n=true) {lv k:Nat} {Φ:List V→Mem→RE} (ok:zaU κ lv (κ.fa n) k Φ):FnE (zaU κ) fun x f=>zgo κ f∧κ.mg x=some (.ref f):=feI P n g (zuo P n h) ok
noncomputable def me {κ:KK} (P:PG κ) (n:Nat) (h:(n.blt 11 && Nat.blt 0 n)=true) (i:zgo κ (κ.ma n)) {lv k:Nat} {Φ:List V→Mem→RE} (ok:zaU κ lv (κ.ma n) k Φ):FnE (zaU κ) fun x f=>zgo κ f∧zlS κ x f:=⟨fN (n+52),lv,k,Φ,κ.ma n,ok,i,P.Ms n h⟩
theorem za3 {κ:KK} (P:PG κ) (n:Nat) (h:(fI.elem n && zsI (zar (sOf n)))=true) {d:Nat} (T:Tb κ) {G:CF} (e:(cC (n:=d) (sc:=zar (sOf n)) (cS T 12) (zcl (sOf n))).map (·.1)=some G):zaU κ (d+1) (κ.ad n) (fP n).length (kFn (zar (sOf n)) G []):=
 zn2 P.toWF (P.fs n (Bool.and_eq_true_iff.mp h).1) (zun (Bool.and_eq_true_iff.mp h).2) (fun x_ x_=>.nil) (ziP T e)
noncomputable abbrev T0 {κ:KK} (P:PG κ):Tb κ:={ W:=P.toWFC,R:=P.rais,rx:=⟨Str.ofString "AsmError",P.gX⟩,ats:=[⟨(_,0),P.n0⟩,⟨(_,1),P.n1⟩,⟨(_,2),P.n2⟩] }
noncomputable def zjw:CF:=(zaq (zbF [(zac (.str [77,73])),(zac (.str [69,81])),(zac (.str [67,83])),(zac (.str [86,83])),(zac (.str [76,83])),(zac (.str [76,84])),(zac (.str [76,69])),(zac (.str [65,76])),(zac (.str [80,76])),(zac (.str [78,69])),(zac (.str [67,67])),(zac (.str [86,67])),(zac (.str [72,73])),(zac (.str [71,69])),(zac (.str [71,84])),(zac (.str [78,86]))]))
theorem znF:zaK (zar (zaE 4)) []=[]:=rfl
noncomputable def zen:List V→Mem→RE:=kFn (zar (zaE 4)) zjw []
theorem zgY {κ:KK} (P:PG κ):zaU κ 1 (κ.fa 4) 0 zen:=za3 P 4 rfl (T0 P) (by kernel_rfl)
noncomputable def zjx:CF:=(zaq (zbF [(zac (.str [77,79,86])),(zac (.str [76,83,76])),(zac (.str [65,83,82])),(zac (.str [82,79,82])),(zac (.str [65,78,68])),(zac (.str [65,78,78])),(zac (.str [73,79,82])),(zac (.str [88,79,82])),(zac (.str [65,68,68])),(zac (.str [83,85,66])),(zac (.str [77,85,76])),(zac (.str [68,73,86]))]))
theorem znG:zaK (zar (zaE 5)) []=[]:=rfl
noncomputable def zb1:List V→Mem→RE:=kFn (zar (zaE 5)) zjx []
theorem zds {κ:KK} (P:PG κ):zaU κ 1 (κ.fa 5) 0 zb1:=za3 P 5 rfl (T0 P) (by kernel_rfl)
noncomputable def zir:CF:=(zaq (zbF [(zac (.str [76,68,82])),(zac (.str [76,68,66])),(zac (.str [83,84,82])),(zac (.str [83,84,66]))]))
theorem zlV:zaK (zar (zaE 6)) []=[]:=rfl
noncomputable def zcr:List V→Mem→RE:=kFn (zar (zaE 6)) zir []
theorem zey {κ:KK} (P:PG κ):zaU κ 1 (κ.fa 6) 0 zcr:=za3 P 6 rfl (T0 P) (by kernel_rfl)
noncomputable def zlW:CF:=(zaq (kB (zbt (zcu [(zaI zfT [(zae 0),(zac (.ty "int"))]),(kB (zdd (tst (zaI zfT [(zae 0),(zac (.ty "bool"))])))),(zai (opC .LtE) (zae 1) (zae 0)),(zai (opC .LtE) (zae 0) (zae 2))]))))
theorem zp2:∀ a0 a1 a2:V,zaK (zar (zaE 7)) [a0,a1,a2]=[some a0,some a1,some a2,none,none,none]:=fun x_ x_ x_=>rfl
noncomputable def zcf:List V→Mem→RE:=kFn (zar (zaE 7)) zlW []
theorem zgE {κ:KK} (P:PG κ):zaU κ 1 (κ.fa 7) 3 zcf:=za3 P 7 rfl (T0 P) (by kernel_rfl)
noncomputable def zja:CF:=(zaq (zaw zcf 3 [(zae 0),(zac (.int 0)),(zac (.int 15))]))
theorem zmH:∀ a0:V,zaK (zar (zaE 8)) [a0]=[some a0,none]:=fun x_=>rfl
noncomputable def zcj:List V→Mem→RE:=kFn (zar (zaE 8)) zja []
theorem zgr {κ:KK} (P:PG κ):zaU κ 2 (κ.fa 8) 1 zcj:=za3 P 8 rfl { T0 P with fns:=[fe P 7 rfl rfl (zgE P)] } (by kernel_rfl)
noncomputable def zfD:CF:=(zaj (kIf (zbt [(tst (zb9 "str" zol (zae 0) [(zac (.str [73]))])),(tst (zai (opC .In) (zb5 (zae 0) none (some (zcW (zac (.int 1))))) (zaw zb1 0 [])))]) (zaq (zb5 (zae 0) none (some (zcW (zac (.int 1)))))) zaz) (zaq (zac (.str []))))
theorem zh5:∀ a0:V,zaK (zar (zaE 9)) [a0]=[some a0,none]:=fun x_=>rfl
noncomputable def zbz:List V→Mem→RE:=kFn (zar (zaE 9)) zfD []
theorem zcC {κ:KK} (P:PG κ):zaU κ 2 (κ.fa 9) 1 zbz:=za3 P 9 rfl { T0 P with fns:=[fe P 5 rfl rfl (zds P)] } (by kernel_rfl)
noncomputable def zg9:CF:=(zaj (zam (zdI [1,2,3,4]) (zae 0)) (zaj (kIf (kOr [(zdd (tst (zaw zcj 1 [(zae 2)]))),(zdd (tst (zaw zcj 1 [(zae 3)])))]) (zaq (zac (.str [98,97,100,32,114,101,103,105,115,116,101,114]))) zaz) (zaj (kIf (zbt [(tst (zai (opC .In) (zae 1) (zaW [(zac (.str [77,79,86])),(zac (.str [77,79,86,73])),(zac (.str [77,79,86,72])),(zac (.str [71,69,84,72]))]))),(tst (zai (opC .NotEq) (zae 3) (zac (.int 0))))]) (zaq (zac (.str [98,97,100,32,114,101,103,105,115,116,101,114]))) zaz) (zaj (kIf (tst (zai (opC .Eq) (zae 1) (zac (.str [71,69,84,72])))) (zaq (zbE (tst (zaw zcf 3 [(zae 4),(zac (.int 0)),(zac (.int 0))])) (zac (.str [])) (zac (.str [98,97,100,32,111,112,101,114,97,110,100])))) zaz) (zaj (kIf (tst (zai (opC .Eq) (zae 1) (zac (.str [77,79,86,72])))) (zaq (zbE (tst (zaw zcf 3 [(zae 4),(zac (.int 0)),(zac (.int 65535))])) (zac (.str [])) (zac (.str [98,97,100,32,105,109,109,101,100,105,97,116,101])))) zaz) (zaj (kIf (tst (zai (opC .In) (zae 1) (zaw zb1 0 []))) (zaq (zbE (tst (zaw zcj 1 [(zae 4)])) (zac (.str [])) (zac (.str [98,97,100,32,114,101,103,105,115,116,101,114])))) zaz) (zaq (zbE (tst (zaw zcf 3 [(zae 4),(zcW (zac (.int 65536))),(zac (.int 65535))])) (zac (.str [])) (zac (.str [98,97,100,32,105,109,109,101,100,105,97,116,101]))))))))))
theorem zjy:∀ a0:V,zaK (zar (zaE 10)) [a0]=[some a0,none,none,none,none,none,none,none]:=fun x_=>rfl
noncomputable def zeS:List V→Mem→RE:=kFn (zar (zaE 10)) zg9 []
theorem zjz {κ:KK} (P:PG κ):zaU κ 3 (κ.fa 10) 1 zeS:=za3 P 10 rfl { T0 P with fns:=[fe P 8 rfl rfl (zgr P),fe P 7 rfl rfl (zgE P),fe P 5 rfl rfl (zds P)] } (by kernel_rfl)
noncomputable def zis:CF:=(zaj (kIf (kOr [(zdd (tst (zaw zcj 1 [(zai zap (zae 0) (zac (.int 1)))]))),(zdd (tst (zaw zcj 1 [(zai zap (zae 0) (zac (.int 2)))])))]) (zaq (zac (.str [98,97,100,32,114,101,103,105,115,116,101,114]))) zaz) (zaq (zbE (tst (zaw zcf 3 [(zai zap (zae 0) (zac (.int 3))),(zcW (zac (.int 524288))),(zac (.int 524287))])) (zac (.str [])) (zac (.str [98,97,100,32,111,102,102,115,101,116])))))
theorem zlX:∀ a0:V,zaK (zar (zaE 11)) [a0]=[some a0,none,none]:=fun x_=>rfl
noncomputable def zgf:List V→Mem→RE:=kFn (zar (zaE 11)) zis []
theorem zlY {κ:KK} (P:PG κ):zaU κ 3 (κ.fa 11) 1 zgf:=za3 P 11 rfl { T0 P with fns:=[fe P 8 rfl rfl (zgr P),fe P 7 rfl rfl (zgE P)] } (by kernel_rfl)
noncomputable def zit:CF:=(zaj (zam (zdI [1,2,3,4]) (zae 0)) (zaj (kIf (tst (zai (opC .NotIn) (zae 2) (zaw zen 0 []))) (zaq (zac (.str [98,97,100,32,99,111,110,100,105,116,105,111,110]))) zaz) (zaj (kIf (tst (zai (opC .Eq) (zae 1) (zac (.str [84,82,65,80])))) (zaj (kIf (zdd (tst (zaw zcf 3 [(zae 3),(zac (.int 0)),(zac (.int 15))]))) (zaq (zac (.str [98,97,100,32,116,114,97,112]))) zaz) (zaq (zbE (tst (zaw zcf 3 [(zae 4),(zac (.int 0)),(zac (.int 65535))])) (zac (.str [])) (zac (.str [98,97,100,32,112,108,97,99,101]))))) zaz) (zaj (kIf (zdd (tst (zaw zcf 3 [(zae 4),(zac (.int 0)),(zac (.int 0))]))) (zaq (zac (.str [98,97,100,32,111,112,101,114,97,110,100]))) zaz) (zaj (kIf (kOr [(tst (zai (opC .Eq) (zae 1) (zac (.str [66])))),(tst (zai (opC .Eq) (zae 1) (zac (.str [66,76]))))]) (zaq (zbE (tst (zaw zcf 3 [(zae 3),(zcW (zac (.int 8388608))),(zac (.int 8388607))])) (zac (.str [])) (zac (.str [98,97,100,32,111,102,102,115,101,116])))) zaz) (zaj (kIf (kOr [(zdd (tst (zaw zcj 1 [(zae 3)]))),(zbt [(tst (zai (opC .Eq) (zae 1) (zac (.str [66,76,82])))),(tst (zai (opC .Eq) (zae 3) (zac (.int 12))))])]) (zaq (zac (.str [98,97,100,32,114,101,103,105,115,116,101,114]))) zaz) (zaq (zac (.str [])))))))))
theorem zlZ:∀ a0:V,zaK (zar (zaE 12)) [a0]=[some a0,none,none,none,none,none,none,none]:=fun x_=>rfl
noncomputable def zgg:List V→Mem→RE:=kFn (zar (zaE 12)) zit []
theorem zl0 {κ:KK} (P:PG κ):zaU κ 3 (κ.fa 12) 1 zgg:=za3 P 12 rfl { T0 P with fns:=[fe P 4 rfl rfl (zgY P),fe P 7 rfl rfl (zgE P),fe P 8 rfl rfl (zgr P)] } (by kernel_rfl)
noncomputable def zh6:CF:=(zaj (kIf (kOr [(zdd (tst (zaI zfT [(zae 0),(zac (.ty "tuple"))]))),(tst (zai (opC .NotEq) (zaI zbw [(zae 0)]) (zac (.int 4)))),(zdd (tst (zaI zfT [(zai zap (zae 0) (zac (.int 0))),(zac (.ty "str"))])))]) (zaq (zac (.str [98,97,100,32,115,104,97,112,101]))) zaz) (zaj (zam (zat 1) (zai zap (zae 0) (zac (.int 0)))) (zaj (kIf (kOr [(tst (zai (opC .In) (zae 1) (zaW [(zac (.str [77,79,86,72])),(zac (.str [71,69,84,72]))]))),(tst (zai (opC .In) (zae 1) (zaw zb1 0 []))),(tst (zai (opC .NotEq) (zaw zbz 1 [(zae 1)]) (zac (.str []))))]) (zaq (zaw zeS 1 [(zae 0)])) zaz) (zaj (kIf (tst (zai (opC .In) (zae 1) (zaw zcr 0 []))) (zaq (zaw zgf 1 [(zae 0)])) zaz) (zaj (kIf (tst (zai (opC .In) (zae 1) (zaW [(zac (.str [66])),(zac (.str [66,76])),(zac (.str [66,82])),(zac (.str [66,76,82])),(zac (.str [84,82,65,80]))]))) (zaq (zaw zgg 1 [(zae 0)])) zaz) (zaq (zac (.str [117,110,107,110,111,119,110,32,110,97,109,101]))))))))
theorem zjA:∀ a0:V,zaK (zar (zaE 13)) [a0]=[some a0,none,none,none,none,none,none,none,none,none,none,none]:=fun x_=>rfl
noncomputable def zdl:List V→Mem→RE:=kFn (zar (zaE 13)) zh6 []
theorem zjB {κ:KK} (P:PG κ):zaU κ 4 (κ.fa 13) 1 zdl:=za3 P 13 rfl { T0 P with fns:=[fe P 5 rfl rfl (zds P),fe P 9 rfl rfl (zcC P),fe P 10 rfl rfl (zjz P),fe P 6 rfl rfl (zey P),fe P 11 rfl rfl (zlY P),fe P 12 rfl rfl (zl0 P)] } (by kernel_rfl)
noncomputable def zhs:CF:=(zaj (zam (zdI [1,2,3,4]) (zae 0)) (zaj (zam (zat 5) (zai zaH (zai zev (zae 2) (zac (.int 16777216))) (zai zev (zae 3) (zac (.int 1048576))))) (zaj (kIf (tst (zai (opC .Eq) (zae 1) (zac (.str [71,69,84,72])))) (zaq (zai zaH (zac (.int 536870912)) (zae 5))) zaz) (zaj (kIf (tst (zai (opC .Eq) (zae 1) (zac (.str [77,79,86,72])))) (zaq (zai zaH (zai zaH (zac (.int 1610612736)) (zae 5)) (zae 4))) zaz) (zaj (kIf (tst (zai (opC .In) (zae 1) (zaw zb1 0 []))) (zaq (zai zaH (zai zaH (zae 5) (zai zev (zb9 "list" zkd (zaw zb1 0 []) [(zae 1)]) (zac (.int 65536)))) (zae 4))) zaz) (zaj (zhr 5 (zai zev (zb9 "list" zkd (zaw zb1 0 []) [(zb5 (zae 1) none (some (zcW (zac (.int 1)))))]) (zac (.int 65536)))) (zaj (kIf (tst (zai (opC .Lt) (zae 4) (zac (.int 0)))) (zaq (zai zaH (zai zaH (zai zaH (zac (.int 1342177280)) (zae 5)) (zae 4)) (zac (.int 65536)))) zaz) (zaq (zai zaH (zai zaH (zac (.int 1073741824)) (zae 5)) (zae 4))))))))))
theorem zkF:∀ a0:V,zaK (zar (zaE 14)) [a0]=[some a0,none,none,none,none,none,none]:=fun x_=>rfl
noncomputable def zfa:List V→Mem→RE:=kFn (zar (zaE 14)) zhs []
theorem zkG {κ:KK} (P:PG κ):zaU κ 2 (κ.fa 14) 1 zfa:=za3 P 14 rfl { T0 P with fns:=[fe P 5 rfl rfl (zds P)] } (by kernel_rfl)
noncomputable def zjb:CF:=(zaj (zam (zdI [1,2,3,4]) (zae 0)) (zaj (zam (zat 5) (zai zaH (zac (.int 3221225472)) (zai zev (zb9 "list" zkd (zaw zen 0 []) [(zae 2)]) (zac (.int 16777216))))) (zaj (kIf (tst (zai (opC .Eq) (zae 1) (zac (.str [84,82,65,80])))) (zaq (zai zaH (zai zaH (zai zaH (zai zaH (zae 5) (zac (.int 268435456))) (zai zev (zae 4) (zac (.int 256)))) (zai zev (zae 3) (zac (.int 16)))) (zac (.int 12)))) zaz) (zaj (kIf (kOr [(tst (zai (opC .Eq) (zae 1) (zac (.str [66,76])))),(tst (zai (opC .Eq) (zae 1) (zac (.str [66,76,82]))))]) (zhr 5 (zac (.int 268435456))) zaz) (zaj (kIf (kOr [(tst (zai (opC .Eq) (zae 1) (zac (.str [66])))),(tst (zai (opC .Eq) (zae 1) (zac (.str [66,76]))))]) (zaq (zai zaH (zai zaH (zae 5) (zac (.int 536870912))) (zai zba (zae 3) (zac (.int 16777216))))) zaz) (zaq (zai zaH (zae 5) (zae 3))))))))
theorem zmI:∀ a0:V,zaK (zar (zaE 15)) [a0]=[some a0,none,none,none,none,none,none]:=fun x_=>rfl
noncomputable def zgD:List V→Mem→RE:=kFn (zar (zaE 15)) zjb []
theorem zmJ {κ:KK} (P:PG κ):zaU κ 2 (κ.fa 15) 1 zgD:=za3 P 15 rfl { T0 P with fns:=[fe P 4 rfl rfl (zgY P)] } (by kernel_rfl)
noncomputable def zlo:CF:=(zaj (zam (zat 1) (zaw zdl 1 [(zae 0)])) (zaj (kIf (tst (zai (opC .NotEq) (zae 1) (zac (.str [])))) zjs zaz) (zaj (zam (zat 2) (zai zap (zae 0) (zac (.int 0)))) (zaj (kIf (tst (zai (opC .In) (zae 2) (zaw zcr 0 []))) (zaj (zam (zat 3) (zai zaH (zac (.int 2147483648)) (zai zev (zb9 "list" zkd (zaw zcr 0 []) [(zae 2)]) (zac (.int 268435456))))) (zaq (zai zaH (zai zaH (zai zaH (zae 3) (zai zev (zai zap (zae 0) (zac (.int 1))) (zac (.int 16777216)))) (zai zev (zai zap (zae 0) (zac (.int 2))) (zac (.int 1048576)))) (zai zba (zai zap (zae 0) (zac (.int 3))) (zac (.int 1048576)))))) zaz) (zaj (kIf (tst (zai (opC .In) (zae 2) (zaW [(zac (.str [66])),(zac (.str [66,76])),(zac (.str [66,82])),(zac (.str [66,76,82])),(zac (.str [84,82,65,80]))]))) (zaq (zaw zgD 1 [(zae 0)])) zaz) (zaq (zaw zfa 1 [(zae 0)])))))))
theorem znh:∀ a0:V,zaK (zar (zaE 16)) [a0]=[some a0,none,none,none,none,none,none,none,none]:=fun x_=>rfl
noncomputable def zfM:List V→Mem→RE:=kFn (zar (zaE 16)) zlo []
theorem zni {κ:KK} (P:PG κ):zaU κ 5 (κ.fa 16) 1 zfM:=za3 P 16 rfl { T0 P with fns:=[fe P 13 rfl rfl (zjB P),fe P 6 rfl rfl (zey P),fe P 15 rfl rfl (zmJ P),fe P 14 rfl rfl (zkG P)] } (by kernel_rfl)
noncomputable def zkQ:CF:=(zaq (kB (kOr (zcu [(kB (zbt (zcu [(zai (opC .LtE) (zac (.str [97])) (zae 0)),(zai (opC .LtE) (zae 0) (zac (.str [122])))]))),(kB (zbt (zcu [(zai (opC .LtE) (zac (.str [65])) (zae 0)),(zai (opC .LtE) (zae 0) (zac (.str [90])))]))),(zai (opC .Eq) (zae 0) (zac (.str [95])))]))))
theorem zoD:∀ a0:V,zaK (zar (zaE 19)) [a0]=[some a0]:=fun x_=>rfl
noncomputable def zd1:List V→Mem→RE:=kFn (zar (zaE 19)) zkQ []
theorem zfX {κ:KK} (P:PG κ):zaU κ 1 (κ.fa 19) 1 zd1:=za3 P 19 rfl (T0 P) (by kernel_rfl)
noncomputable def zkR:CF:=(zaq (kB (zbt (zcu [(zai (opC .LtE) (zac (.str [48])) (zae 0)),(zai (opC .LtE) (zae 0) (zac (.str [57])))]))))
theorem zoE:∀ a0:V,zaK (zar (zaE 20)) [a0]=[some a0]:=fun x_=>rfl
noncomputable def zeT:List V→Mem→RE:=kFn (zar (zaE 20)) zkR []
theorem zht {κ:KK} (P:PG κ):zaU κ 1 (κ.fa 20) 1 zeT:=za3 P 20 rfl (T0 P) (by kernel_rfl)
noncomputable def zfd:TF:=(zbt [(tst (zai (opC .Lt) (zae 2) (zaI zbw [(zae 0)]))),(kOr [(tst (zaw zd1 1 [(zai zap (zae 0) (zae 2))])),(tst (zaw zeT 1 [(zai zap (zae 0) (zae 2))]))])])
noncomputable def zh7:CF:=(zhr 2 (zac (.int 1)))
noncomputable def zl1:CF:=(zaj (zam (zat 2) (zai zaH (zae 1) (zac (.int 1)))) (zaj (zc3 zfd zh7 zlm) (zaq (zae 2))))
theorem zp3:∀ a0 a1:V,zaK (zar (zaE 21)) [a0,a1]=[some a0,some a1,none,none,none,none]:=fun x_ x_=>rfl
noncomputable def zig:List V→Mem→RE:=kFn (zar (zaE 21)) zl1 []
theorem zp4 {κ:KK} (P:PG κ):zaU κ 2 (κ.fa 21) 2 zig:=za3 P 21 rfl { T0 P with fns:=[fe P 19 rfl rfl (zfX P),fe P 20 rfl rfl (zht P)] } (by kernel_rfl)
noncomputable def zek:TF:=(zbt [(tst (zai (opC .Lt) (zae 3) (zaI zbw [(zae 0)]))),(tst (zai (opC .NotEq) (zai zap (zae 0) (zae 3)) (zac (.str [59]))))])
noncomputable def zgZ:CF:=(zaj (zam (zat 4) (zai zap (zae 0) (zae 3))) (kIf (tst (zai (opC .In) (zae 4) (zac (.str [32,9,13])))) (zhr 3 (zac (.int 1))) (kIf (tst (zai (opC .In) (zae 4) (zac (.str [44,58,91,93])))) (zaj (zaY (zbH (zae 2) (zae 4))) (zhr 3 (zac (.int 1)))) (kIf (kOr [(tst (zaw zd1 1 [(zae 4)])),(tst (zaw zeT 1 [(zae 4)])),(tst (zai (opC .Eq) (zae 4) (zac (.str [45]))))]) (zaj (zam (zat 5) (zaw zig 2 [(zae 0),(zae 3)])) (zaj (zaY (zbH (zae 2) (zb5 (zae 0) (some (zae 3)) (some (zae 5))))) (zam (zat 3) (zae 5)))) (zdy (zae 1) (zac (.str [98,97,100,32,99,104,97,114,97,99,116,101,114])))))))
noncomputable def zjC:CF:=(zaj (zam (zat 2) (zdM [])) (zaj (zam (zat 3) (zac (.int 0))) (zaj (zc3 zek zgZ zlm) (zaq (zae 2)))))
theorem znH:∀ a0 a1:V,zaK (zar (zaE 22)) [a0,a1]=[some a0,some a1,none,none,none,none,none,none,none,none,none]:=fun x_ x_=>rfl
noncomputable def zg6:List V→Mem→RE:=kFn (zar (zaE 22)) zjC []
theorem znI {κ:KK} (P:PG κ):zaU κ 3 (κ.fa 22) 2 zg6:=za3 P 22 rfl { T0 P with fns:=[fe P 19 rfl rfl (zfX P),fe P 20 rfl rfl (zht P),fe P 21 rfl rfl (zp4 P)] } (by kernel_rfl)
noncomputable def zhu:CF:=(kIf (zdd (tst (zaw zeT 1 [(zae 2)]))) (zaq (zac (.bool false))) zaz)
noncomputable def zkS:CF:=(zaj (zam (zat 1) (zbE (tst (zai (opC .Eq) (zb5 (zae 0) none (some (zac (.int 1)))) (zac (.str [45])))) (zb5 (zae 0) (some (zac (.int 1))) none) (zae 0))) (zaj (kIf (tst (zai (opC .Eq) (zae 1) (zac (.str [])))) (zaq (zac (.bool false))) zaz) (zaj (zlM (zae 1) (zat 2) zhu) (zaq (zac (.bool true))))))
theorem zoF:∀ a0:V,zaK (zar (zaE 23)) [a0]=[some a0,none,none,none]:=fun x_=>rfl
noncomputable def zgh:List V→Mem→RE:=kFn (zar (zaE 23)) zkS []
theorem zjD {κ:KK} (P:PG κ):zaU κ 2 (κ.fa 23) 1 zgh:=za3 P 23 rfl { T0 P with fns:=[fe P 20 rfl rfl (zht P)],fl:=3 } (by kernel_rfl)
noncomputable def zjc:CF:=(zaj (ziN 0 (zae 1) (zae 0)) (zaj (ziN 1 (zae 2) (zae 0)) (ziN 2 (zac (.int 0)) (zae 0))))
theorem zmK:∀ a0 a1 a2:V,zaK (zar (mAt 24 0)) [a0,a1,a2]=[some a0,some a1,some a2]:=fun x_ x_ x_=>rfl
noncomputable def zd2:List V→Mem→RE:=kFn (zar (mAt 24 0)) zjc []
theorem zmL {κ:KK} (P:PG κ):zaU κ 1 (κ.ma 0) 3 zd2:=za3 P 52 rfl (T0 P) (by kernel_rfl)
noncomputable def znj:CF:=(zdy (zec 1 (zae 0)) (zae 1))
theorem zrq:∀ a0 a1:V,zaK (zar (mAt 24 1)) [a0,a1]=[some a0,some a1,none]:=fun x_ x_=>rfl
noncomputable def zcs:List V→Mem→RE:=kFn (zar (mAt 24 1)) znj []
theorem zed {κ:KK} (P:PG κ):zaU κ 1 (κ.ma 1) 2 zcs:=za3 P 53 rfl (T0 P) (by kernel_rfl)
noncomputable def znk:CF:=(zaj (kIf (tst (zai (opC .GtE) (zec 2 (zae 0)) (zaI zbw [(zec 0 (zae 0))]))) (zaq (zac (.str []))) zaz) (zaj (zlP 2 (zae 0) (zac (.int 1))) (zaq (zai zap (zec 0 (zae 0)) (zai zfp (zec 2 (zae 0)) (zac (.int 1)))))))
theorem zrr:∀ a0:V,zaK (zar (mAt 24 2)) [a0]=[some a0,none]:=fun x_=>rfl
noncomputable def zcH:List V→Mem→RE:=kFn (zar (mAt 24 2)) znk []
theorem zee {κ:KK} (P:PG κ):zaU κ 1 (κ.ma 2) 1 zcH:=za3 P 54 rfl (T0 P) (by kernel_rfl)
noncomputable def zkT:CF:=(kIf (tst (zai (opC .NotEq) (zaS zcH 1 (zae 0) []) (zae 1))) (zaY (zaS zcs 2 (zae 0) [(zai zaH (zac (.str [101,120,112,101,99,116,101,100,32])) (zae 1))])) zaz)
theorem zoG:∀ a0 a1:V,zaK (zar (mAt 24 3)) [a0,a1]=[some a0,some a1]:=fun x_ x_=>rfl
noncomputable def zdm:List V→Mem→RE:=kFn (zar (mAt 24 3)) zkT []
theorem zfY {κ:KK} (P:PG κ):zaU κ 2 (κ.ma 3) 2 zdm:=za3 P 55 rfl { T0 P with mes:=[me P 2 rfl (P.fs 54 rfl).isFn (zee P),me P 1 rfl (P.fs 53 rfl).isFn (zed P)] } (by kernel_rfl)
noncomputable def zjd:CF:=(zaj (zam (zat 1) (zaS zcH 1 (zae 0) [])) (zaj (kIf (kOr [(tst (zai (opC .NotEq) (zb5 (zae 1) none (some (zac (.int 1)))) (zac (.str [82])))),(zdd (tst (zaw zgh 1 [(zb5 (zae 1) (some (zac (.int 1))) none)]))),(tst (zai (opC .Gt) (zaI zbw [(zae 1)]) (zac (.int 3)))),(tst (zai (opC .Eq) (zai zap (zae 1) (zac (.int 1))) (zac (.str [45]))))]) (zaY (zaS zcs 2 (zae 0) [(zac (.str [101,120,112,101,99,116,101,100,32,97,32,114,101,103,105,115,116,101,114]))])) zaz) (zaj (kIf (kOr [(tst (zai (opC .Gt) (zaI ziL [(zb5 (zae 1) (some (zac (.int 1))) none)]) (zac (.int 15)))),(zbt [(tst (zai (opC .Eq) (zaI zbw [(zae 1)]) (zac (.int 3)))),(tst (zai (opC .Eq) (zai zap (zae 1) (zac (.int 1))) (zac (.str [48]))))])]) (zaY (zaS zcs 2 (zae 0) [(zac (.str [101,120,112,101,99,116,101,100,32,97,32,114,101,103,105,115,116,101,114]))])) zaz) (zaq (zaI ziL [(zb5 (zae 1) (some (zac (.int 1))) none)])))))
theorem zmM:∀ a0:V,zaK (zar (mAt 24 4)) [a0]=[some a0,none,none,none,none]:=fun x_=>rfl
noncomputable def zck:List V→Mem→RE:=kFn (zar (mAt 24 4)) zjd []
theorem zeZ {κ:KK} (P:PG κ):zaU κ 3 (κ.ma 4) 1 zck:=za3 P 56 rfl { T0 P with fns:=[fe P 23 rfl rfl (zjD P)],mes:=[me P 2 rfl (P.fs 54 rfl).isFn (zee P),me P 1 rfl (P.fs 53 rfl).isFn (zed P)] } (by kernel_rfl)
noncomputable def zl2:CF:=(zaj (zam (zat 1) (zaS zcH 1 (zae 0) [])) (zaj (kIf (zdd (tst (zaw zgh 1 [(zae 1)]))) (zaY (zaS zcs 2 (zae 0) [(zac (.str [101,120,112,101,99,116,101,100,32,97,32,110,117,109,98,101,114]))])) zaz) (zaj (kIf (kOr [(tst (zai (opC .Gt) (zaI zbw [(zae 1)]) (zac (.int 13)))),(zbt [(tst (zai (opC .Eq) (zaI zbw [(zae 1)]) (zac (.int 13)))),(tst (zai (opC .NotEq) (zai zap (zae 1) (zac (.int 0))) (zac (.str [45]))))])]) (zaY (zaS zcs 2 (zae 0) [(zac (.str [110,117,109,98,101,114,32,116,111,111,32,108,97,114,103,101]))])) zaz) (zaq (zaI ziL [(zae 1)])))))
theorem zp5:∀ a0:V,zaK (zar (mAt 24 5)) [a0]=[some a0,none,none,none,none]:=fun x_=>rfl
noncomputable def zfn:List V→Mem→RE:=kFn (zar (mAt 24 5)) zl2 []
theorem zh8 {κ:KK} (P:PG κ):zaU κ 3 (κ.ma 5) 1 zfn:=za3 P 57 rfl { T0 P with fns:=[fe P 23 rfl rfl (zjD P)],mes:=[me P 2 rfl (P.fs 54 rfl).isFn (zee P),me P 1 rfl (P.fs 53 rfl).isFn (zed P)] } (by kernel_rfl)
noncomputable def zgO:CF:=(zaj (zaY (zaS zdm 2 (zae 0) [(zac (.str [44]))])) (zaq (zaS zck 1 (zae 0) [])))
theorem zji:∀ a0:V,zaK (zar (mAt 24 6)) [a0]=[some a0]:=fun x_=>rfl
noncomputable def zcx:List V→Mem→RE:=kFn (zar (mAt 24 6)) zgO []
theorem zgj {κ:KK} (P:PG κ):zaU κ 4 (κ.ma 6) 1 zcx:=za3 P 58 rfl { T0 P with mes:=[me P 3 rfl (P.fs 55 rfl).isFn (zfY P),me P 4 rfl (P.fs 56 rfl).isFn (zeZ P)] } (by kernel_rfl)
noncomputable def zhQ:CF:=(zaj (zaY (zaS zdm 2 (zae 0) [(zac (.str [44]))])) (zaq (zaS zfn 1 (zae 0) [])))
theorem zlp:∀ a0:V,zaK (zar (mAt 24 7)) [a0]=[some a0]:=fun x_=>rfl
noncomputable def zcB:List V→Mem→RE:=kFn (zar (mAt 24 7)) zhQ []
theorem zhv {κ:KK} (P:PG κ):zaU κ 4 (κ.ma 7) 1 zcB:=za3 P 59 rfl { T0 P with mes:=[me P 3 rfl (P.fs 55 rfl).isFn (zfY P),me P 5 rfl (P.fs 57 rfl).isFn (zh8 P)] } (by kernel_rfl)
noncomputable def ziu:CF:=(zaj (zam (zat 1) (zaS zcH 1 (zae 0) [])) (zaj (kIf (tst (zai (opC .NotIn) (zae 1) (zaw zen 0 []))) (zaY (zaS zcs 2 (zae 0) [(zac (.str [101,120,112,101,99,116,101,100,32,97,32,99,111,110,100,105,116,105,111,110]))])) zaz) (zaq (zae 1))))
theorem zl3:∀ a0:V,zaK (zar (mAt 24 8)) [a0]=[some a0,none,none]:=fun x_=>rfl
noncomputable def zdH:List V→Mem→RE:=kFn (zar (mAt 24 8)) ziu []
theorem zl4 {κ:KK} (P:PG κ):zaU κ 2 (κ.ma 8) 1 zdH:=za3 P 60 rfl { T0 P with fns:=[fe P 4 rfl rfl (zgY P)],mes:=[me P 2 rfl (P.fs 54 rfl).isFn (zee P),me P 1 rfl (P.fs 53 rfl).isFn (zed P)] } (by kernel_rfl)
noncomputable def zkU:CF:=(zaj (zaY (zaS zdm 2 (zae 0) [(zac (.str [44]))])) (zaj (kIf (zbt [(tst (zai (opC .Lt) (zec 2 (zae 0)) (zaI zbw [(zec 0 (zae 0))]))),(tst (zaw zd1 1 [(zai zap (zai zap (zec 0 (zae 0)) (zec 2 (zae 0))) (zac (.int 0)))]))]) (zaq (zaS zcH 1 (zae 0) [])) zaz) (zaq (zaS zfn 1 (zae 0) []))))
theorem zoH:∀ a0:V,zaK (zar (mAt 24 9)) [a0]=[some a0,none,none]:=fun x_=>rfl
noncomputable def zhK:List V→Mem→RE:=kFn (zar (mAt 24 9)) zkU []
theorem zoI {κ:KK} (P:PG κ):zaU κ 4 (κ.ma 9) 1 zhK:=za3 P 61 rfl { T0 P with fns:=[fe P 19 rfl rfl (zfX P)],mes:=[me P 3 rfl (P.fs 55 rfl).isFn (zfY P),me P 2 rfl (P.fs 54 rfl).isFn (zee P),me P 5 rfl (P.fs 57 rfl).isFn (zh8 P)] } (by kernel_rfl)
noncomputable def zkV:CF:=(kIf (tst (zai (opC .Lt) (zec 2 (zae 0)) (zaI zbw [(zec 0 (zae 0))]))) (zaY (zaS zcs 2 (zae 0) [(zac (.str [116,111,111,32,109,97,110,121,32,111,112,101,114,97,110,100,115]))])) zaz)
theorem zoJ:∀ a0:V,zaK (zar (mAt 24 10)) [a0]=[some a0,none]:=fun x_=>rfl
noncomputable def zd3:List V→Mem→RE:=kFn (zar (mAt 24 10)) zkV []
theorem zoK {κ:KK} (P:PG κ):zaU κ 2 (κ.ma 10) 1 zd3:=za3 P 62 rfl { T0 P with mes:=[me P 1 rfl (P.fs 53 rfl).isFn (zed P)] } (by kernel_rfl)
noncomputable def zjE:CF:=(zaj (zam (zat 2) (zaS zck 1 (zae 0) [])) (zaj (zaY (zaS zdm 2 (zae 0) [(zac (.str [44]))])) (zaj (zaY (zaS zdm 2 (zae 0) [(zac (.str [91]))])) (zaj (zam (zat 3) (zaS zck 1 (zae 0) [])) (zaj (zam (zat 4) (zac (.int 0))) (zaj (zam (zat 5) (zaS zcH 1 (zae 0) [])) (zaj (kIf (tst (zai (opC .Eq) (zae 5) (zac (.str [44])))) (zaj (zam (zat 4) (zaS zfn 1 (zae 0) [])) (zam (zat 5) (zaS zcH 1 (zae 0) []))) zaz) (zaj (kIf (tst (zai (opC .NotEq) (zae 5) (zac (.str [93])))) (zaY (zaS zcs 2 (zae 0) [(zac (.str [101,120,112,101,99,116,101,100,32,93]))])) zaz) (zaq (zaW [(zae 1),(zae 2),(zae 3),(zae 4)]))))))))))
theorem znJ:∀ a0 a1:V,zaK (zar (zaE 25)) [a0,a1]=[some a0,some a1,none,none,none,none]:=fun x_ x_=>rfl
noncomputable def zg7:List V→Mem→RE:=kFn (zar (zaE 25)) zjE []
theorem znK {κ:KK} (P:PG κ):zaU κ 4 (κ.fa 25) 2 zg7:=za3 P 25 rfl { T0 P with mes:=[me P 4 rfl (P.fs 56 rfl).isFn (zeZ P),me P 3 rfl (P.fs 55 rfl).isFn (zfY P),me P 2 rfl (P.fs 54 rfl).isFn (zee P),me P 5 rfl (P.fs 57 rfl).isFn (zh8 P),me P 1 rfl (P.fs 53 rfl).isFn (zed P)] } (by kernel_rfl)
noncomputable def zhR:CF:=(zaj (zam (zat 2) (zaS zck 1 (zae 0) [])) (zaj (zam (zat 3) (zac (.int 0))) (zaj (kIf (tst (zai (opC .NotIn) (zae 1) (zaW [(zac (.str [77,79,86])),(zac (.str [77,79,86,73]))]))) (zam (zat 3) (zaS zcx 1 (zae 0) [])) zaz) (zaj (kIf (tst (zai (opC .NotEq) (zaw zbz 1 [(zae 1)]) (zac (.str [])))) (zaq (zaW [(zae 1),(zae 2),(zae 3),(zaS zcB 1 (zae 0) [])])) zaz) (zaq (zaW [(zae 1),(zae 2),(zae 3),(zaS zcx 1 (zae 0) [])]))))))
theorem zlq:∀ a0 a1:V,zaK (zar (zaE 26)) [a0,a1]=[some a0,some a1,none,none,none]:=fun x_ x_=>rfl
noncomputable def zfB:List V→Mem→RE:=kFn (zar (zaE 26)) zhR []
theorem zlr {κ:KK} (P:PG κ):zaU κ 5 (κ.fa 26) 2 zfB:=za3 P 26 rfl { T0 P with fns:=[fe P 9 rfl rfl (zcC P)],mes:=[me P 4 rfl (P.fs 56 rfl).isFn (zeZ P),me P 6 rfl (P.fs 58 rfl).isFn (zgj P),me P 7 rfl (P.fs 59 rfl).isFn (zhv P)] } (by kernel_rfl)
noncomputable def zl5:CF:=(zaj (zam (zat 1) (zaS zcH 1 (zae 0) [])) (zaj (kIf (kOr [(tst (zai (opC .In) (zae 1) (zaw zb1 0 []))),(tst (zai (opC .NotEq) (zaw zbz 1 [(zae 1)]) (zac (.str []))))]) (zaq (zaw zfB 2 [(zae 0),(zae 1)])) zaz) (zaj (kIf (tst (zai (opC .Eq) (zae 1) (zac (.str [77,79,86,72])))) (zaj (zam (zat 2) (zaS zck 1 (zae 0) [])) (zaq (zaW [(zae 1),(zae 2),(zac (.int 0)),(zaS zcB 1 (zae 0) [])]))) zaz) (zaj (kIf (tst (zai (opC .Eq) (zae 1) (zac (.str [71,69,84,72])))) (zaq (zaW [(zae 1),(zaS zck 1 (zae 0) []),(zac (.int 0)),(zac (.int 0))])) zaz) (zaj (kIf (tst (zai (opC .In) (zae 1) (zaw zcr 0 []))) (zaq (zaw zg7 2 [(zae 0),(zae 1)])) zaz) (zaj (kIf (kOr [(tst (zai (opC .Eq) (zae 1) (zac (.str [66])))),(tst (zai (opC .Eq) (zae 1) (zac (.str [66,76]))))]) (zaj (zam (zat 3) (zaS zdH 1 (zae 0) [])) (zaq (zaW [(zae 1),(zae 3),(zaS zhK 1 (zae 0) []),(zac (.int 0))]))) zaz) (zaj (kIf (kOr [(tst (zai (opC .Eq) (zae 1) (zac (.str [66,82])))),(tst (zai (opC .Eq) (zae 1) (zac (.str [66,76,82]))))]) (zaj (zam (zat 3) (zaS zdH 1 (zae 0) [])) (zaq (zaW [(zae 1),(zae 3),(zaS zcx 1 (zae 0) []),(zac (.int 0))]))) zaz) (zaj (kIf (tst (zai (opC .Eq) (zae 1) (zac (.str [84,82,65,80])))) (zaj (zam (zat 3) (zaS zdH 1 (zae 0) [])) (zaj (zam (zat 4) (zaS zcB 1 (zae 0) [])) (zaq (zaW [(zae 1),(zae 3),(zae 4),(zaS zcB 1 (zae 0) [])])))) zaz) (zaq (zaS zcs 2 (zae 0) [(zac (.str [117,110,107,110,111,119,110,32,105,110,115,116,114,117,99,116,105,111,110]))]))))))))))
theorem zp6:∀ a0:V,zaK (zar (zaE 27)) [a0]=[some a0,none,none,none,none,none,none,none,none,none]:=fun x_=>rfl
noncomputable def zer:List V→Mem→RE:=kFn (zar (zaE 27)) zl5 []
theorem zp7 {κ:KK} (P:PG κ):zaU κ 6 (κ.fa 27) 1 zer:=za3 P 27 rfl { T0 P with fns:=[fe P 5 rfl rfl (zds P),fe P 9 rfl rfl (zcC P),fe P 26 rfl rfl (zlr P),fe P 6 rfl rfl (zey P),fe P 25 rfl rfl (znK P)],mes:=[me P 2 rfl (P.fs 54 rfl).isFn (zee P),me P 4 rfl (P.fs 56 rfl).isFn (zeZ P),me P 7 rfl (P.fs 59 rfl).isFn (zhv P),me P 8 rfl (P.fs 60 rfl).isFn (zl4 P),me P 9 rfl (P.fs 61 rfl).isFn (zoI P),me P 6 rfl (P.fs 58 rfl).isFn (zgj P),me P 1 rfl (P.fs 53 rfl).isFn (zed P)] } (by kernel_rfl)
noncomputable def zl6:CF:=(zaj (kIf (zbt [(tst (zai (opC .Gt) (zaI zbw [(zae 0)]) (zac (.int 1)))),(tst (zai (opC .Eq) (zai zap (zae 0) (zac (.int 1))) (zac (.str [58]))))]) (zaj (kIf (zdd (tst (zaw zd1 1 [(zai zap (zai zap (zae 0) (zac (.int 0))) (zac (.int 0)))]))) (zdy (zae 1) (zac (.str [98,97,100,32,108,97,98,101,108]))) zaz) (zaq (zai zap (zae 0) (zac (.int 0))))) zaz) (zaq (zac (.str []))))
theorem zp8:∀ a0 a1:V,zaK (zar (zaE 28)) [a0,a1]=[some a0,some a1,none,none,none]:=fun x_ x_=>rfl
noncomputable def zih:List V→Mem→RE:=kFn (zar (zaE 28)) zl6 []
theorem zp9 {κ:KK} (P:PG κ):zaU κ 2 (κ.fa 28) 2 zih:=za3 P 28 rfl { T0 P with fns:=[fe P 19 rfl rfl (zfX P)] } (by kernel_rfl)
noncomputable def zmN:CF:=(zaj (kIf (tst (zaI zfT [(zae 2),(zac (.ty "str"))])) (zaj (kIf (tst (zai (opC .NotIn) (zae 2) (zae 4))) (zdy (zae 5) (zac (.str [117,110,107,110,111,119,110,32,108,97,98,101,108]))) zaz) (zam (zat 2) (zai zfp (zai zfp (zai zap (zae 4) (zae 2)) (zae 3)) (zac (.int 1))))) zaz) (zaq (zaW [(zae 0),(zae 1),(zae 2),(zac (.int 0))])))
theorem zoL:∀ a0 a1 a2 a3 a4 a5:V,zaK (zar (zaE 29)) [a0,a1,a2,a3,a4,a5]=[some a0,some a1,some a2,some a3,some a4,some a5,none,none,none]:=fun x_ x_ x_ x_ x_ x_=>rfl
noncomputable def zi7:List V→Mem→RE:=kFn (zar (zaE 29)) zmN []
theorem zup {κ:KK} (P:PG κ):zaU κ 1 (κ.fa 29) 6 zi7:=za3 P 29 rfl (T0 P) (by kernel_rfl)
noncomputable def zgF:CF:=(zaj (zhr 3 (zac (.int 1))) (zaj (zam (zat 5) (zaw zg6 2 [(zae 4),(zae 3)])) (zaj (zam (zat 6) (zaw zih 2 [(zae 5),(zae 3)])) (zaj (kIf (tst (zai (opC .NotEq) (zae 6) (zac (.str [])))) (zaj (kIf (tst (zai (opC .In) (zae 6) (zae 2))) (zdy (zae 3) (zac (.str [108,97,98,101,108,32,116,119,105,99,101]))) zaz) (zaj (zeH (zaI zbw [(zae 1)]) (zae 2) (zae 6)) (zam (zat 5) (zb5 (zae 5) (some (zac (.int 2))) none)))) zaz) (kIf (tst (zai (opC .Gt) (zaI zbw [(zae 5)]) (zac (.int 0)))) (zaj (zam (zat 7) (zmG zd2 3 [(zae 5),(zae 3)])) (zaj (zam (zat 8) (zaw zer 1 [(zae 7)])) (zaj (zaY (zaS zd3 1 (zae 7) [])) (zaY (zbH (zae 1) (zaW [(zae 3),(zae 8)])))))) zaz)))))
noncomputable def zgG:CF:=(zaj (kIf (kOr [(tst (zai (opC .Eq) (zai zap (zae 8) (zac (.int 0))) (zac (.str [66])))),(tst (zai (opC .Eq) (zai zap (zae 8) (zac (.int 0))) (zac (.str [66,76]))))]) (zam (zat 8) (zaw zi7 6 [(zai zap (zae 8) (zac (.int 0))),(zai zap (zae 8) (zac (.int 1))),(zai zap (zae 8) (zac (.int 2))),(zaI zbw [(zae 9)]),(zae 2),(zae 3)])) zaz) (zaj (zam (zat 10) (zaw zdl 1 [(zae 8)])) (zaj (kIf (tst (zai (opC .NotEq) (zae 10) (zac (.str [])))) (zdy (zae 3) (zae 10)) zaz) (zaY (zbH (zae 9) (zae 8))))))
noncomputable def zl7:CF:=(zaj (zam (zat 1) (zdM [])) (zaj (zam (zat 2) zgN) (zaj (zam (zat 3) (zac (.int 0))) (zaj (zhc (zb9 "str" zqv (zae 0) [(zac (.str [10]))]) (zat 4) (ziO zgF)) (zaj (zam (zat 9) (zdM [])) (zaj (zhc (zae 1) (zdI [3,8]) zgG) (zaq (zae 9))))))))
theorem zqa:∀ a0:V,zaK (zar (zaE 30)) [a0]=[some a0,none,none,none,none,none,none,none,none,none,none,none,none,none,none,none,none,none,none]:=fun x_=>rfl
noncomputable def zfo:List V→Mem→RE:=kFn (zar (zaE 30)) zl7 []
theorem zqb {κ:KK} (P:PG κ):zaU κ 7 (κ.fa 30) 1 zfo:=za3 P 30 rfl { T0 P with fns:=[fe P 22 rfl rfl (znI P),fe P 28 rfl rfl (zp9 P),fe P 27 rfl rfl (zp7 P),fe P 29 rfl rfl (zup P),fe P 13 rfl rfl (zjB P)],mes:=[me P 10 rfl (P.fs 62 rfl).isFn (zoK P)],new:=[⟨Str.ofString "RowReader",_,_,_,_,zmL P,P.cls,P.gC⟩],fl:=1 } (by kernel_rfl)
noncomputable def zhS:CF:=(zaq (zai zaH (zac (.str [82])) (zaI zc5 [(zae 0)])))
theorem zls:∀ a0:V,zaK (zar (zaE 32)) [a0]=[some a0,none]:=fun x_=>rfl
noncomputable def zdn:List V→Mem→RE:=kFn (zar (zaE 32)) zhS []
theorem zlt {κ:KK} (P:PG κ):zaU κ 1 (κ.fa 32) 1 zdn:=za3 P 32 rfl (T0 P) (by kernel_rfl)
noncomputable def zhT:CF:=(zaj (zam (zdI [1,2,3,4]) (zae 0)) (zaj (zam (zat 5) (zdM [(zaw zdn 1 [(zae 2)])])) (zaj (kIf (tst (zai (opC .NotIn) (zae 1) (zaW [(zac (.str [77,79,86])),(zac (.str [77,79,86,73])),(zac (.str [77,79,86,72])),(zac (.str [71,69,84,72]))]))) (zaY (zbH (zae 5) (zaw zdn 1 [(zae 3)]))) zaz) (zaj (kIf (tst (zai (opC .In) (zae 1) (zaw zb1 0 []))) (zaY (zbH (zae 5) (zaw zdn 1 [(zae 4)]))) (kIf (tst (zai (opC .NotEq) (zae 1) (zac (.str [71,69,84,72])))) (zaY (zbH (zae 5) (zaI zc5 [(zae 4)]))) zaz)) (zaq (zb9 "str" zc2 (zac (.str [44,32])) [(zae 5)]))))))
theorem zlu:∀ a0:V,zaK (zar (zaE 33)) [a0]=[some a0,none,none,none,none,none,none,none,none]:=fun x_=>rfl
noncomputable def zfC:List V→Mem→RE:=kFn (zar (zaE 33)) zhT []
theorem zlv {κ:KK} (P:PG κ):zaU κ 2 (κ.fa 33) 1 zfC:=za3 P 33 rfl { T0 P with fns:=[fe P 32 rfl rfl (zlt P),fe P 5 rfl rfl (zds P)] } (by kernel_rfl)
noncomputable def zfZ:CF:=(zaj (zam (zdI [2,3,4,5]) (zae 0)) (zaj (kIf (tst (zai (opC .In) (zae 2) (zaw zcr 0 []))) (zaq (zcc [(zde (zae 2)),(zac (.str [32,82])),(zde (zae 3)),(zac (.str [44,32,91,82])),(zde (zae 4)),(zac (.str [44,32])),(zde (zae 5)),(zac (.str [93]))] [])) zaz) (zaj (kIf (tst (zai (opC .Eq) (zae 2) (zac (.str [84,82,65,80])))) (zaq (zcc [(zac (.str [84,82,65,80,32])),(zde (zae 3)),(zac (.str [44,32])),(zde (zae 4)),(zac (.str [44,32])),(zde (zae 5))] [])) zaz) (zaj (kIf (kOr [(tst (zai (opC .Eq) (zae 2) (zac (.str [66,82])))),(tst (zai (opC .Eq) (zae 2) (zac (.str [66,76,82]))))]) (zaq (zcc [(zde (zae 2)),(zac (.str [32])),(zde (zae 3)),(zac (.str [44,32,82])),(zde (zae 4))] [])) zaz) (zaj (kIf (kOr [(tst (zai (opC .Eq) (zae 2) (zac (.str [66])))),(tst (zai (opC .Eq) (zae 2) (zac (.str [66,76]))))]) (zaj (zam (zat 6) (zbE (tst (zai (opC .NotEq) (zae 1) (zac (.str [])))) (zae 1) (zaI zc5 [(zae 4)]))) (zaq (zcc [(zde (zae 2)),(zac (.str [32])),(zde (zae 3)),(zac (.str [44,32])),(zde (zae 6))] []))) zaz) (zaq (zai zaH (zai zaH (zae 2) (zac (.str [32]))) (zaw zfC 1 [(zae 0)]))))))))
theorem zkW {κ:KK} (P:PG κ):CE κ 2 (zar (zaE 34)) (zcl (zaE 34)) zfZ:=ziP { T0 P with fns:=[fe P 6 rfl rfl (zey P),fe P 33 rfl rfl (zlv P)] } (by kernel_rfl)
theorem zkX:∀ a0 a1:V,zaK (zar (zaE 34)) [a0,a1]=[some a0,some a1,none,none,none,none,none,none,none,none]:=fun x_ x_=>rfl
noncomputable def zcN:List V→Mem→RE:=kFn (zar (zaE 34)) zfZ []
theorem zoM {κ:KK} (P:PG κ):zaU κ 3 (κ.fa 34) 2 zcN:=zn2 P.toWF P.fR0 (by decide) (fun x_ x_=>.nil) (zkW P)
noncomputable def zgi:List V→Mem→RE:=kFn (zar (zaE 34)) zfZ [.d (.str [])]
theorem zoN {κ:KK} (P:PG κ):zaU κ 3 (κ.fa 34) 1 zgi:=zn2 P.toWF P.fR1 (by decide) (fun x_ x_=>.cons (.d (.str [] 619)) .nil) (zkW P)
noncomputable def zkY:CF:=(zaj (zam (zat 2) (zai zap (zai zap (zae 0) (zae 1)) (zac (.int 0)))) (zaj (kIf (zbt [(tst (zai (opC .NotEq) (zae 2) (zac (.str [66])))),(tst (zai (opC .NotEq) (zae 2) (zac (.str [66,76]))))]) (zaq (zcW (zac (.int 1)))) zaz) (zaj (zam (zat 3) (zai zaH (zai zaH (zae 1) (zac (.int 1))) (zai zap (zai zap (zae 0) (zae 1)) (zac (.int 2))))) (zaj (kIf (kOr [(tst (zai (opC .Lt) (zae 3) (zac (.int 0)))),(tst (zai (opC .Gt) (zae 3) (zaI zbw [(zae 0)])))]) (zaq (zcW (zac (.int 1)))) zaz) (zaq (zae 3))))))
theorem zoO:∀ a0 a1:V,zaK (zar (zaE 35)) [a0,a1]=[some a0,some a1,none,none,none]:=fun x_ x_=>rfl
noncomputable def zd4:List V→Mem→RE:=kFn (zar (zaE 35)) zkY []
theorem zjF {κ:KK} (P:PG κ):zaU κ 1 (κ.fa 35) 2 zd4:=za3 P 35 rfl (T0 P) (by kernel_rfl)
noncomputable def zgs:CF:=(zaj (zam (zat 3) (zaw zd4 2 [(zae 0),(zae 2)])) (kIf (tst (zai (opC .GtE) (zae 3) (zac (.int 0)))) (zeH (zai zaH (zac (.str [76])) (zaI zc5 [(zae 3)])) (zae 1) (zae 3)) zaz))
noncomputable def zje:CF:=(zaj (zam (zat 1) zim) (zaj (zex (zaI zbw [(zae 0)]) (zat 2) zgs) (zaq (zae 1))))
theorem zmO:∀ a0:V,zaK (zar (zaE 36)) [a0]=[some a0,none,none,none,none,none,none,none]:=fun x_=>rfl
noncomputable def zd5:List V→Mem→RE:=kFn (zar (zaE 36)) zje []
theorem ziv {κ:KK} (P:PG κ):zaU κ 2 (κ.fa 36) 1 zd5:=za3 P 36 rfl { T0 P with fns:=[fe P 35 rfl rfl (zjF P)] } (by kernel_rfl)
noncomputable def ze0:CF:=(zaj (kIf (tst (zai (opC .In) (zae 3) (zae 1))) (zaY (zbH (zae 2) (zai zaH (zai zap (zae 1) (zae 3)) (zac (.str [58]))))) zaz) (zaj (zam (zat 4) (zaw zd4 2 [(zae 0),(zae 3)])) (zaj (zam (zat 5) (zbE (tst (zai (opC .GtE) (zae 4) (zac (.int 0)))) (zai zap (zae 1) (zae 4)) (zac (.str [])))) (zaY (zbH (zae 2) (zai zaH (zac (.str [32,32])) (zaw zcN 2 [(zai zap (zae 0) (zae 3)),(zae 5)])))))))
noncomputable def zjf:CF:=(zaj (zam (zat 1) (zaw zd5 1 [(zae 0)])) (zaj (zam (zat 2) (zdM [])) (zaj (zex (zaI zbw [(zae 0)]) (zat 3) ze0) (zaj (kIf (tst (zai (opC .In) (zaI zbw [(zae 0)]) (zae 1))) (zaY (zbH (zae 2) (zai zaH (zai zap (zae 1) (zaI zbw [(zae 0)])) (zac (.str [58]))))) zaz) (zaq (zb9 "str" zc2 (zac (.str [10])) [(zae 2)]))))))
theorem zmP:∀ a0:V,zaK (zar (zaE 37)) [a0]=[some a0,none,none,none,none,none,none,none,none,none,none]:=fun x_=>rfl
noncomputable def ze4:List V→Mem→RE:=kFn (zar (zaE 37)) zjf []
theorem zmQ {κ:KK} (P:PG κ):zaU κ 4 (κ.fa 37) 1 ze4:=za3 P 37 rfl { T0 P with fns:=[fe P 36 rfl rfl (ziv P),fe P 35 rfl rfl (zjF P),feI P 34 rfl P.fR0.isFn (zoM P)] } (by kernel_rfl)
noncomputable def zh9:CF:=(zaY (zbH (zae 1) (zai zap (zac (.str [48,49,50,51,52,53,54,55,56,57,65,66,67,68,69,70])) (zai zba (zai zil (zae 0) (zai zdL (zac (.int 16)) (zai zfp (zac (.int 7)) (zae 2)))) (zac (.int 16))))))
noncomputable def zl8:CF:=(zaj (zam (zat 1) (zdM [])) (zaj (zex (zac (.int 8)) (zat 2) zh9) (zaq (zb9 "str" zc2 (zac (.str [])) [(zae 1)]))))
theorem zqc:∀ a0:V,zaK (zar (zaE 38)) [a0]=[some a0,none,none,none]:=fun x_=>rfl
noncomputable def zii:List V→Mem→RE:=kFn (zar (zaE 38)) zl8 []
theorem zqd {κ:KK} (P:PG κ):zaU κ 1 (κ.fa 38) 1 zii:=za3 P 38 rfl (T0 P) (by kernel_rfl)
noncomputable def ziQ:CF:=(zaj (zam (zat 4) (zai zap (zae 0) (zae 3))) (zaY (zbH (zae 2) (zcc [(zde (zai zaH (zae 1) (zae 3))),(zac (.str [32])),(zde (zaw zii 1 [(zaw zfM 1 [(zae 4)])])),(zac (.str [32])),(zde (zaw zgi 1 [(zae 4)]))] []))))
noncomputable def zjG:CF:=(zaj (zam (zat 2) (zdM [])) (zaj (zex (zaI zbw [(zae 0)]) (zat 3) ziQ) (zaq (zae 2))))
theorem zrs {κ:KK} (P:PG κ):CE κ 5 (zar (zaE 39)) (zcl (zaE 39)) zjG:=ziP { T0 P with fns:=[fe P 38 rfl rfl (zqd P),fe P 16 rfl rfl (zni P),feI P 34 rfl P.fR0.isFn (zoN P)] } (by kernel_rfl)
theorem zrt:∀ a0 a1:V,zaK (zar (zaE 39)) [a0,a1]=[some a0,some a1,none,none,none,none,none,none,none,none]:=fun x_ x_=>rfl
noncomputable def zhh:List V→Mem→RE:=kFn (zar (zaE 39)) zjG []
theorem zru {κ:KK} (P:PG κ):zaU κ 6 (κ.fa 39) 2 zhh:=zn2 P.toWF P.fL (by decide) (fun x_ x_=>.nil) (zrs P)
noncomputable def zg0:CF:=(zaj (zam (zat 3) (zai zap (zae 2) (zac (.int 0)))) (zaj (kIf (tst (zai (opC .NotEq) (zaw zbz 1 [(zae 3)]) (zac (.str [])))) (zam (zat 3) (zaw zbz 1 [(zae 3)])) zaz) (zeH (zai zaH (zb9 "dict" zn0 (zae 1) [(zae 3),(zac (.int 0))]) (zac (.int 1))) (zae 1) (zae 3))))
noncomputable def zg1:CF:=zaz
noncomputable def zg2:CF:=(zaj (zhc (zae 0) (zat 2) zg0) (zaq (zeY (zdr 1) (zaI zdf [(zae 1)]) (zrl 1))))
noncomputable def zjH:CF:=zaj zg1 (zaj (zam (zat 1) zgN) zg2)
theorem zmR {κ:KK} (P:PG κ):CE κ 2 (zar (zaE 40)) ((zcl (zaE 40)).take 0) zg1:=zsn
theorem zmS {κ:KK} (P:PG κ):CE κ 2 (zar (zaE 40)) ((zcl (zaE 40)).drop 1) zg2:=ziP { T0 P with fns:=[fe P 9 rfl rfl (zcC P)] } (by kernel_rfl)
theorem znL:∀ a0:V,zaK (zar (zaE 40)) [a0]=[some a0,none,none,none,none,none]:=fun x_=>rfl
noncomputable def zfx:List V→Mem→RE:=kFn (zar (zaE 40)) zjH []
set_option tactic.hygienic true in
theorem znM {κ:KK} (P:PG κ):zaU κ 3 (κ.fa 40) 1 zfx:=zsD (pre:=(zcl (zaE 40)).take 0) (post:=(zcl (zaE 40)).drop 1) (iy:=1) P.toWF (P.fs 40 rfl) (fun x_=>rfl) rfl (by intro i x h;exact zoB (by decide) h) (zmR P) (zmS P)
noncomputable def zia:CF:=(kIf (tst (zai (opC .Gt) (zae 3) (zac (.int 0)))) (zaj (zaY (zbH (zae 1) (zai zba (zae 3) (zac (.int 1024))))) (zam (zat 3) (zai zil (zae 3) (zac (.int 1024))))) zaz)
noncomputable def zgH:CF:=(zaj (zam (zat 3) (zbE (tst (zai (opC .GtE) (zae 2) (zac (.int 0)))) (zae 2) (zai zfp (zac (.int 7)) (zae 2)))) (zaj (zaY (zbH (zae 1) (zai zba (zae 3) (zac (.int 1024))))) (zaj (zam (zat 3) (zai zil (zae 3) (zac (.int 1024)))) (zex (zac (.int 30)) (zat 4) zia))))
noncomputable def ziR:CF:=(zaj (zam (zat 1) (zdM [])) (zaj (zhc (zb5 (zae 0) none (some (zac (.int 40)))) (zat 2) zgH) (zaj (zam (zat 1) (zio (zae 1) none (some (zac (.int 160))))) (zaj (zaY (zop (zae 1))) (zaq (zae 1))))))
theorem zqe {κ:KK} (P:PG κ):CE κ 0 (zar (zaE 42)) (zcl (zaE 42)) ziR:=ziP { T0 P with fl:=2 } (by kernel_rfl)
theorem zqf:∀ a0:V,zaK (zar (zaE 42)) [a0]=[some a0,none,none,none,none,none]:=fun x_=>rfl
noncomputable def zij:List V→Mem→RE:=zoA (zar (zaE 42)) ziR
theorem zqg {κ:KK} (P:PG κ):zn4 κ 1 (κ.fa 42) 1 zij:=zxL P.toWF (P.fs 42 rfl) (by decide) (zqe P)
noncomputable def zkZ:CF:=(zaq (zbE (tst (zai (opC .NotEq) (zae 0) (zbF []))) (zoo (zae 0)) (zac (.int 0))))
theorem zoP:∀ a0:V,zaK (zar (zaE 43)) [a0]=[some a0]:=fun x_=>rfl
noncomputable def zaB:List V→Mem→RE:=kFn (zar (zaE 43)) zkZ []
theorem zeK {κ:KK} (P:PG κ):zaU κ 1 (κ.fa 43) 1 zaB:=za3 P 43 rfl (T0 P) (by kernel_rfl)
noncomputable def zjI:CF:=(zaq (zbF [(zac (.str [77,79,86])),(zac (.str [76,83,76])),(zac (.str [65,83,82])),(zac (.str [82,79,82])),(zac (.str [65,78,68])),(zac (.str [65,78,78])),(zac (.str [73,79,82])),(zac (.str [88,79,82])),(zac (.str [65,68,68])),(zac (.str [83,85,66])),(zac (.str [77,85,76])),(zac (.str [68,73,86]))]))
theorem znN:zaK (zar (zaE 44)) []=[]:=rfl
noncomputable def zc0:List V→Mem→RE:=kFn (zar (zaE 44)) zjI []
theorem zfr {κ:KK} (P:PG κ):zaU κ 1 (κ.fa 44) 0 zc0:=za3 P 44 rfl (T0 P) (by kernel_rfl)
noncomputable def zjJ:CF:=(zaq (zbF [(zac (.str [77,73])),(zac (.str [69,81])),(zac (.str [67,83])),(zac (.str [86,83])),(zac (.str [76,83])),(zac (.str [76,84])),(zac (.str [76,69])),(zac (.str [65,76])),(zac (.str [80,76])),(zac (.str [78,69])),(zac (.str [67,67])),(zac (.str [86,67])),(zac (.str [72,73])),(zac (.str [71,69])),(zac (.str [71,84])),(zac (.str [78,86]))]))
theorem znO:zaK (zar (zaE 45)) []=[]:=rfl
noncomputable def zg8:List V→Mem→RE:=kFn (zar (zaE 45)) zjJ []
theorem znP {κ:KK} (P:PG κ):zaU κ 1 (κ.fa 45) 0 zg8:=za3 P 45 rfl (T0 P) (by kernel_rfl)
noncomputable def zl9:CF:=(zaj (zam (zat 3) (zai zba (zaw zaB 1 [(zae 0)]) (zac (.int 6)))) (zaj (kIf (tst (zai (opC .Lt) (zae 3) (zac (.int 2)))) (zaq (zai zap (zbF [(zae 1),(zae 2)]) (zae 3))) zaz) (zaj (kIf (tst (zai (opC .Eq) (zae 3) (zac (.int 2)))) (zaq (zbE (tst (zai (opC .Eq) (zai zba (zaw zaB 1 [(zae 0)]) (zac (.int 3))) (zac (.int 2)))) (zai zap (zbF [(zai zfp (zae 1) (zac (.int 1))),(zai zaH (zae 2) (zac (.int 1)))]) (zai zba (zaw zaB 1 [(zae 0)]) (zac (.int 2)))) (zac (.int 0)))) zaz) (zaq (zai zaH (zae 1) (zai zba (zai zaH (zai zaH (zai zev (zaw zaB 1 [(zae 0)]) (zai zdL (zac (.int 2)) (zac (.int 20)))) (zai zev (zaw zaB 1 [(zae 0)]) (zac (.int 1024)))) (zaw zaB 1 [(zae 0)])) (zai zaH (zai zfp (zae 2) (zae 1)) (zac (.int 1)))))))))
theorem zqh:∀ a0 a1 a2:V,zaK (zar (zaE 46)) [a0,a1,a2]=[some a0,some a1,some a2,none,none]:=fun x_ x_ x_=>rfl
noncomputable def zcI:List V→Mem→RE:=kFn (zar (zaE 46)) zl9 []
theorem zqi {κ:KK} (P:PG κ):zaU κ 2 (κ.fa 46) 3 zcI:=za3 P 46 rfl { T0 P with fns:=[fe P 43 rfl rfl (zeK P)] } (by kernel_rfl)
noncomputable def zk0:CF:=(zaj (zam (zat 1) (zai zba (zaw zaB 1 [(zae 0)]) (zac (.int 9)))) (zaj (zam (zat 2) (zai zba (zaw zaB 1 [(zae 0)]) (zac (.int 16)))) (zaj (zam (zat 3) (zai zba (zaw zaB 1 [(zae 0)]) (zac (.int 16)))) (zaj (zam (zat 4) (zai zap (zaw zg8 0 []) (zai zba (zaw zaB 1 [(zae 0)]) (zac (.int 16))))) (zaj (kIf (tst (zai (opC .Lt) (zae 1) (zac (.int 2)))) (zaj (zam (zat 5) (zai zap (zaw zc0 0 []) (zai zba (zaw zaB 1 [(zae 0)]) (zac (.int 12))))) (zaq (zaW [(zae 5),(zae 2),(zbE (tst (zai (opC .Eq) (zae 5) (zac (.str [77,79,86])))) (zac (.int 0)) (zae 3)),(zai zba (zaw zaB 1 [(zae 0)]) (zac (.int 17)))]))) zaz) (zaj (kIf (tst (zai (opC .Lt) (zae 1) (zac (.int 4)))) (zaj (zam (zat 5) (zai zap (zaw zc0 0 []) (zai zba (zaw zaB 1 [(zae 0)]) (zac (.int 12))))) (zaq (zaW [(zai zaH (zae 5) (zac (.str [73]))),(zae 2),(zbE (tst (zai (opC .Eq) (zae 5) (zac (.str [77,79,86])))) (zac (.int 0)) (zae 3)),(zaw zcI 3 [(zae 0),(zcW (zac (.int 65536))),(zac (.int 65535))])]))) zaz) (zaj (kIf (tst (zai (opC .Eq) (zae 1) (zac (.int 4)))) (zaq (zai zap (zbF [(zaW [(zac (.str [77,79,86,72])),(zae 2),(zac (.int 0)),(zaw zcI 3 [(zae 0),(zac (.int 0)),(zac (.int 65535))])]),(zaW [(zac (.str [71,69,84,72])),(zae 2),(zac (.int 0)),(zac (.int 0))])]) (zai zba (zaw zaB 1 [(zae 0)]) (zac (.int 2))))) zaz) (zaj (kIf (tst (zai (opC .Eq) (zae 1) (zac (.int 5)))) (zaq (zaW [(zai zap (zbF [(zac (.str [76,68,82])),(zac (.str [76,68,66])),(zac (.str [83,84,82])),(zac (.str [83,84,66]))]) (zai zba (zaw zaB 1 [(zae 0)]) (zac (.int 4)))),(zae 2),(zae 3),(zaw zcI 3 [(zae 0),(zcW (zai zdL (zac (.int 2)) (zac (.int 19)))),(zai zfp (zai zdL (zac (.int 2)) (zac (.int 19))) (zac (.int 1)))])])) zaz) (zaj (kIf (tst (zai (opC .Eq) (zae 1) (zac (.int 6)))) (zaq (zaW [(zai zap (zbF [(zac (.str [66])),(zac (.str [66,76]))]) (zai zba (zaw zaB 1 [(zae 0)]) (zac (.int 2)))),(zae 4),(zaw zcI 3 [(zae 0),(zcW (zai zdL (zac (.int 2)) (zac (.int 23)))),(zai zfp (zai zdL (zac (.int 2)) (zac (.int 23))) (zac (.int 1)))]),(zac (.int 0))])) zaz) (zaj (kIf (tst (zai (opC .Eq) (zae 1) (zac (.int 7)))) (zaq (zaW [(zai zap (zbF [(zac (.str [66,82])),(zac (.str [66,76,82]))]) (zai zba (zaw zaB 1 [(zae 0)]) (zac (.int 2)))),(zae 4),(zae 2),(zac (.int 0))])) zaz) (zaq (zaW [(zac (.str [84,82,65,80])),(zae 4),(zaw zcI 3 [(zae 0),(zac (.int 0)),(zac (.int 15))]),(zaw zcI 3 [(zae 0),(zac (.int 0)),(zac (.int 65535))])]))))))))))))
theorem zoQ:∀ a0:V,zaK (zar (zaE 47)) [a0]=[some a0,none,none,none,none,none,none,none,none,none]:=fun x_=>rfl
noncomputable def zeU:List V→Mem→RE:=kFn (zar (zaE 47)) zk0 []
theorem zoR {κ:KK} (P:PG κ):zaU κ 3 (κ.fa 47) 1 zeU:=za3 P 47 rfl { T0 P with fns:=[fe P 43 rfl rfl (zeK P),fe P 45 rfl rfl (znP P),fe P 44 rfl rfl (zfr P),fe P 46 rfl rfl (zqi P)] } (by kernel_rfl)
noncomputable def zhw:CF:=(zaj (zam (zdI [1,2,3,4]) (zae 0)) (zaj (kIf (tst (zai (opC .In) (zae 1) (zaW [(zac (.str [66])),(zac (.str [66,76]))]))) (zaq (kB (zbt (zcu [(kB (zcO .LtE .Lt (zcW (zai zdL (zac (.int 2)) (zac (.int 23)))) (zae 3) (zai zdL (zac (.int 2)) (zac (.int 23))))),(zai (opC .Eq) (zae 4) (zac (.int 0)))])))) zaz) (zaj (kIf (tst (zai (opC .In) (zae 1) (zaW [(zac (.str [66,82])),(zac (.str [66,76,82]))]))) (zaq (kB (zbt (zcu [(kB (zcO .LtE .Lt (zac (.int 0)) (zae 3) (zac (.int 16)))),(zai (opC .Eq) (zae 4) (zac (.int 0))),(kB (kOr (zcu [(zai (opC .Eq) (zae 1) (zac (.str [66,82]))),(zai (opC .NotEq) (zae 3) (zac (.int 12)))])))])))) zaz) (zaj (kIf (tst (zai (opC .Eq) (zae 1) (zac (.str [84,82,65,80])))) (zaq (kB (zbt (zcu [(kB (zcO .LtE .Lt (zac (.int 0)) (zae 3) (zac (.int 16)))),(kB (zcO .LtE .Lt (zac (.int 0)) (zae 4) (zac (.int 65536))))])))) zaz) (zaj (kIf (kOr [(zdd (zcO .LtE .Lt (zac (.int 0)) (zae 2) (zac (.int 16)))),(zdd (zcO .LtE .Lt (zac (.int 0)) (zae 3) (zac (.int 16)))),(zbt [(tst (zai (opC .In) (zae 1) (zaW [(zac (.str [77,79,86])),(zac (.str [77,79,86,73])),(zac (.str [77,79,86,72])),(zac (.str [71,69,84,72]))]))),(tst (zai (opC .NotEq) (zae 3) (zac (.int 0))))])]) (zaq (zac (.bool false))) zaz) (zaj (kIf (tst (zai (opC .In) (zae 1) (zaW [(zac (.str [76,68,82])),(zac (.str [76,68,66])),(zac (.str [83,84,82])),(zac (.str [83,84,66]))]))) (zaq (kB (zcO .LtE .Lt (zcW (zai zdL (zac (.int 2)) (zac (.int 19)))) (zae 4) (zai zdL (zac (.int 2)) (zac (.int 19)))))) zaz) (zaj (kIf (tst (zai (opC .In) (zae 1) (zaW [(zac (.str [71,69,84,72])),(zac (.str [77,79,86,72]))]))) (zaq (kB (zcO .LtE .Lt (zac (.int 0)) (zae 4) (zbE (tst (zai (opC .Eq) (zae 1) (zac (.str [71,69,84,72])))) (zac (.int 1)) (zac (.int 65536)))))) zaz) (zaq (zbE (tst (zai (opC .In) (zae 1) (zaw zc0 0 []))) (kB (zcO .LtE .Lt (zac (.int 0)) (zae 4) (zac (.int 16)))) (kB (zcO .LtE .Lt (zcW (zac (.int 65536))) (zae 4) (zac (.int 65536)))))))))))))
theorem zjg:∀ a0:V,zaK (zar (zaE 48)) [a0]=[some a0,none,none,none,none,none]:=fun x_=>rfl
noncomputable def zdw:List V→Mem→RE:=kFn (zar (zaE 48)) zhw []
theorem znQ {κ:KK} (P:PG κ):zaU κ 2 (κ.fa 48) 1 zdw:=za3 P 48 rfl { T0 P with fns:=[fe P 44 rfl rfl (zfr P)] } (by kernel_rfl)
noncomputable def zdS:CF:=(zaj (zam (zdI [3,4,5,6]) (zae 1)) (zaj (kIf (tst (zai (opC .In) (zae 3) (zaW [(zac (.str [76,68,82])),(zac (.str [76,68,66])),(zac (.str [83,84,82])),(zac (.str [83,84,66]))]))) (zaj (zam (zat 7) (zbE (kOr [(tst (zai (opC .NotEq) (zae 6) (zac (.int 0)))),(tst (zai (opC .Eq) (zai zba (zaw zaB 1 [(zae 0)]) (zac (.int 2))) (zac (.int 1))))]) (zbF [(zai zaH (zac (.str [82])) (zaI zc5 [(zae 5)])),(zac (.str [44])),(zaI zc5 [(zae 6)])]) (zbF [(zai zaH (zac (.str [82])) (zaI zc5 [(zae 5)]))]))) (zaq (zai zaH (zai zaH (zbF [(zae 3),(zai zaH (zac (.str [82])) (zaI zc5 [(zae 4)])),(zac (.str [44])),(zac (.str [91]))]) (zae 7)) (zbF [(zac (.str [93]))])))) zaz) (zaj (kIf (tst (zai (opC .Eq) (zae 3) (zac (.str [84,82,65,80])))) (zaq (zbF [(zae 3),(zae 4),(zac (.str [44])),(zaI zc5 [(zae 5)]),(zac (.str [44])),(zaI zc5 [(zae 6)])])) zaz) (zaj (kIf (tst (zai (opC .In) (zae 3) (zaW [(zac (.str [66])),(zac (.str [66,76]))]))) (zaq (zbF [(zae 3),(zae 4),(zac (.str [44])),(zbE (tst (zai (opC .Is) (zae 2) (zac .none))) (zaI zc5 [(zae 5)]) (zae 2))])) zaz) (zaj (kIf (tst (zai (opC .In) (zae 3) (zaW [(zac (.str [66,82])),(zac (.str [66,76,82]))]))) (zaq (zbF [(zae 3),(zae 4),(zac (.str [44])),(zai zaH (zac (.str [82])) (zaI zc5 [(zae 5)]))])) zaz) (zaj (zam (zat 8) (zdM [(zae 3),(zai zaH (zac (.str [82])) (zaI zc5 [(zae 4)]))])) (zaj (kIf (tst (zai (opC .NotIn) (zae 3) (zaW [(zac (.str [77,79,86])),(zac (.str [77,79,86,73])),(zac (.str [77,79,86,72])),(zac (.str [71,69,84,72]))]))) (zlN 8 (zbF [(zac (.str [44])),(zai zaH (zac (.str [82])) (zaI zc5 [(zae 5)]))])) zaz) (zaj (kIf (tst (zai (opC .NotEq) (zae 3) (zac (.str [71,69,84,72])))) (zlN 8 (zbF [(zac (.str [44])),(zai zaH (zbE (tst (zai (opC .In) (zae 3) (zaw zc0 0 []))) (zac (.str [82])) (zac (.str []))) (zaI zc5 [(zae 6)]))])) zaz) (zaq (zae 8))))))))))
theorem zel:∀ a0 a1 a2:V,zaK (zar (zaE 49)) [a0,a1,a2]=[some a0,some a1,some a2,none,none,none,none,none,none,none,none,none]:=fun x_ x_ x_=>rfl
noncomputable def zct:List V→Mem→RE:=kFn (zar (zaE 49)) zdS []
theorem znR {κ:KK} (P:PG κ):zaU κ 2 (κ.fa 49) 3 zct:=za3 P 49 rfl { T0 P with fns:=[fe P 43 rfl rfl (zeK P),fe P 44 rfl rfl (zfr P)] } (by kernel_rfl)
noncomputable def zk1:CF:=(zaq (zaw zfo 1 [(zae 0)]))
theorem zoS:∀ a0:V,zaK (zar (zaE 50)) [a0]=[some a0,none,none,none]:=fun x_=>rfl
noncomputable def zb0:List V→Mem→RE:=zn3 (zar (zaE 50)) zk1
theorem zjK {κ:KK} (P:PG κ):zaU κ 8 (κ.fa 50) 1 zb0:=zwa P.toWFC P.rais (P.fs 50 rfl) (by decide) P.gX rfl (by decide) rfl (by decide) (zso (zsr (zqy P.toWF (zqb P) (zuo P 30 rfl) (by decide) (P.gs 30 rfl) rfl (by decide) (.cons (fun x_ x_=>rfl) (zsa rfl (by decide)) .nil))))
noncomputable def zma:CF:=(zaj (zam (zat 4) (zaw zeU 1 [(zae 1)])) (zaj (kIf (zbt [(tst (zai (opC .In) (zai zap (zae 4) (zac (.int 0))) (zaW [(zac (.str [66])),(zac (.str [66,76]))]))),(tst (zai (opC .Gt) (zai zba (zaw zaB 1 [(zae 1)]) (zac (.int 3))) (zac (.int 0))))]) (zam (zat 4) (zaW [(zai zap (zae 4) (zac (.int 0))),(zai zap (zae 4) (zac (.int 1))),(zai zfp (zai zba (zaw zaB 1 [(zae 1)]) (zac (.int 10))) (zac (.int 5))),(zac (.int 0))])) zaz) (kIf (tst (zaw zdw 1 [(zae 4)])) (zaY (zbH (zae 2) (zae 4))) zaz)))
noncomputable def zoT:CF:=(zaj (zam (zat 8) (zbE (tst (zai (opC .In) (zai zap (zai zap (zae 2) (zae 7)) (zac (.int 0))) (zaW [(zac (.str [66])),(zac (.str [66,76]))]))) (zai zaH (zai zaH (zae 7) (zac (.int 1))) (zai zap (zai zap (zae 2) (zae 7)) (zac (.int 2)))) (zcW (zac (.int 1))))) (kIf (zcO .LtE .LtE (zac (.int 0)) (zae 8) (zae 5)) (zeH (zai zaH (zac (.str [97,116,95])) (zaI zc5 [(zae 8)])) (zae 6) (zae 8)) zaz))
noncomputable def zmb:CF:=(zaj (zam (zat 10) (zac (.str []))) (zaj (kIf (tst (zai (opC .In) (zae 7) (zae 6))) (zaj (zam (zat 10) (zai zaH (zai zap (zae 6) (zae 7)) (zai zap (zbF [(zac (.str [58])),(zac (.str [32,58])),(zac (.str [58,32]))]) (zai zba (zaw zaB 1 [(zae 1)]) (zac (.int 3)))))) (kIf (kOr [(tst (zai (opC .Eq) (zai zba (zaw zaB 1 [(zae 1)]) (zac (.int 2))) (zac (.int 1)))),(tst (zai (opC .Eq) (zae 7) (zae 5)))]) (zaj (zaY (zbH (zae 9) (zae 10))) (zam (zat 10) (zac (.str [])))) zaz)) zaz) (zaj (kIf (tst (zai (opC .Lt) (zae 7) (zae 5))) (zaj (zam (zat 8) (zbE (tst (zai (opC .In) (zai zap (zai zap (zae 2) (zae 7)) (zac (.int 0))) (zaW [(zac (.str [66])),(zac (.str [66,76]))]))) (zai zaH (zai zaH (zae 7) (zac (.int 1))) (zai zap (zai zap (zae 2) (zae 7)) (zac (.int 2)))) (zcW (zac (.int 1))))) (zaj (zam (zat 11) (zbE (zbt [(tst (zai (opC .In) (zae 8) (zae 6))),(tst (zai (opC .Gt) (zai zba (zaw zaB 1 [(zae 1)]) (zac (.int 3))) (zac (.int 0))))]) (zai zap (zae 6) (zae 8)) (zac .none))) (zaj (zam (zat 12) (zai zap (zbF [(zac (.str [32])),(zac (.str [32,32])),(zac (.str [9]))]) (zai zba (zaw zaB 1 [(zae 1)]) (zac (.int 3))))) (zaj (zam (zat 13) (zaw zct 3 [(zae 1),(zai zap (zae 2) (zae 7)),(zae 11)])) (zaY (zbH (zae 9) (zai zaH (zai zaH (zai zaH (zae 10) (zae 12)) (zb9 "str" zc2 (zae 12) [(zae 13)])) (zai zap (zbF [(zac (.str [])),(zac (.str [32,59,32,82,49,44,32,40,114,101,109,97,114,107])),(zac (.str [59]))]) (zai zba (zaw zaB 1 [(zae 1)]) (zac (.int 3))))))))))) zaz) (kIf (tst (zai (opC .Eq) (zai zba (zaw zaB 1 [(zae 1)]) (zac (.int 5))) (zac (.int 4)))) (zaY (zbH (zae 9) (zai zap (zbF [(zac (.str [])),(zac (.str [32,59,32,120])),(zac (.str [9]))]) (zai zba (zaw zaB 1 [(zae 1)]) (zac (.int 3)))))) zaz))))
noncomputable def zoU:CF:=(zam (zat 17) (zai zaH (zai zap (zac (.str [48,49,50,51,52,53,54,55,56,57,65,66,67,68,69,70])) (zai zba (zai zil (zaw zfM 1 [(zai zap (zae 2) (zae 7))]) (zai zdL (zac (.int 16)) (zae 18))) (zac (.int 16)))) (zae 17)))
noncomputable def zoV:CF:=(zaj (zam (zat 10) (zai zaH (zaI zc5 [(zai zaH (zae 14) (zae 7))]) (zac (.str [32])))) (zaj (zam (zat 17) (zac (.str []))) (zaj (zex (zac (.int 8)) (zat 18) zoU) (zaj (kIf (tst (zai (opC .NotEq) (zb5 (zai zap (zae 15) (zae 7)) none (some (zai zaH (zaI zbw [(zae 10)]) (zac (.int 9))))) (zai zaH (zai zaH (zae 10) (zae 17)) (zac (.str [32]))))) (zaq (zac (.bool false))) zaz) (zaj (zam (zat 19) (zai zap (zai zap (zae 2) (zae 7)) (zac (.int 0)))) (zaj (zam (zat 19) (zbE (zbt [(tst (zai (opC .Eq) (zai zap (zae 19) (zcW (zac (.int 1)))) (zac (.str [73])))),(tst (zai (opC .In) (zb5 (zae 19) none (some (zcW (zac (.int 1))))) (zaw zc0 0 [])))]) (zb5 (zae 19) none (some (zcW (zac (.int 1))))) (zae 19))) (zeH (zai zaH (zb9 "dict" zn0 (zae 16) [(zae 19),(zac (.int 0))]) (zac (.int 1))) (zae 16) (zae 19))))))))
noncomputable def zoW:CF:=(zaj (zam (zat 1) (zjv zij 1 [(zae 0)])) (zaj (zam (zat 2) (zdM [])) (zaj (zex (zai zba (zaw zaB 1 [(zae 1)]) (zac (.int 10))) (zat 3) zma) (zaj (zam (zat 5) (zaI zbw [(zae 2)])) (zaj (zam (zat 6) zim) (zaj (zex (zae 5) (zat 7) zoT) (zaj (zam (zat 9) (zdM [])) (zaj (zex (zai zaH (zae 5) (zac (.int 1))) (zat 7) zmb) (zaj (kIf (kOr [(tst (zai (opC .NotEq) (zaw zb0 1 [(zb9 "str" zc2 (zac (.str [10])) [(zae 9)])]) (zae 2))),(tst (zai (opC .NotEq) (zaw zb0 1 [(zaw ze4 1 [(zae 2)])]) (zae 2)))]) (zaq (zac (.bool false))) zaz) (zaj (kIf (tst (zai (opC .NotEq) (zaI zdf [(zaw zd5 1 [(zae 2)])]) (zaI zdf [(zae 6)]))) (zaq (zac (.bool false))) zaz) (zaj (zam (zat 14) (zaw zaB 1 [(zae 1)])) (zam (zat 15) (zaw zhh 2 [(zae 2),(zae 14)])))))))))))))
noncomputable def zoX:CF:=(zaj (zex (zae 5) (zat 7) zoV) (zaj (kIf (tst (zai (opC .NotEq) (zeY (fun x_=>true) (zaw zfx 1 [(zae 2)]) zgq) (zeY (zdr 16) (zaI zdf [(zae 16)]) (zrm 16)))) (zaq (zac (.bool false))) zaz) (zaj (zam (zat 20) (zbF [(zaW [(zac (.str [65,68,68,32,82,49,44,32,82,50])),(zac (.str [101,120,112,101,99,116,101,100,32,44]))]),(zaW [(zac (.str [65,68,68,32,82,49,44,32,82,50,44,32,82,49,54])),(zac (.str [101,120,112,101,99,116,101,100,32,97,32,114,101,103,105,115,116,101,114]))]),(zaW [(zac (.str [65,68,68,32,82,49,44,32,82,50,44,32,53])),(zac (.str [101,120,112,101,99,116,101,100,32,97,32,114,101,103,105,115,116,101,114]))]),(zaW [(zac (.str [65,68,68,73,32,82,49,44,32,82,50,44,32,82,51])),(zac (.str [101,120,112,101,99,116,101,100,32,97,32,110,117,109,98,101,114]))]),(zaW [(zac (.str [77,79,86,73,32,82,49,44,32,55,48,48,48,48])),(zac (.str [98,97,100,32,105,109,109,101,100,105,97,116,101]))]),(zaW [(zac (.str [76,68,82,32,82,49,44,32,91,82,50,44,32,49])),(zac (.str [101,120,112,101,99,116,101,100,32,93]))]),(zaW [(zac (.str [66,32,69,81,44,32,110,111,119,104,101,114,101])),(zac (.str [117,110,107,110,111,119,110,32,108,97,98,101,108]))]),(zaW [(zac (.str [66,32,88,88,44,32,49])),(zac (.str [101,120,112,101,99,116,101,100,32,97,32,99,111,110,100,105,116,105,111,110]))]),(zaW [(zac (.str [70,76,89,32,82,49])),(zac (.str [117,110,107,110,111,119,110,32,105,110,115,116,114,117,99,116,105,111,110]))]),(zaW [(zac (.str [71,69,84,72,32,82,49,44,32,82,50])),(zac (.str [116,111,111,32,109,97,110,121,32,111,112,101,114,97,110,100,115]))]),(zaW [(zac (.str [77,79,86,32,82,49,32,82,50])),(zac (.str [101,120,112,101,99,116,101,100,32,44]))]),(zaW [(zac (.str [84,82,65,80,32,65,76,44,32,49,54,44,32,48])),(zac (.str [98,97,100,32,116,114,97,112]))]),(zaW [(zac (.str [66,76,82,32,65,76,44,32,82,49,50])),(zac (.str [98,97,100,32,114,101,103,105,115,116,101,114]))]),(zaW [(zac (.str [77,79,86,73,32,82,49,44,32,49,48,48,48,48,48,48,48,48,48,48,48,48,48,48,48])),(zac (.str [110,117,109,98,101,114,32,116,111,111,32,108,97,114,103,101]))]),(zaW [(zac (.str [77,79,86,32,82,49,44,32,82,50,32,36])),(zac (.str [98,97,100,32,99,104,97,114,97,99,116,101,114]))]),(zaW [(zac (.str [104,101,114,101,58,32,77,79,86,32,82,49,44,32,82,50,10,104,101,114,101,58,32,71,69,84,72,32,82,49])),(zac (.str [108,97,98,101,108,32,116,119,105,99,101]))]),(zaW [(zac (.str [51,58,32,71,69,84,72,32,82,49])),(zac (.str [98,97,100,32,108,97,98,101,108]))]),(zaW [(zac (.str [77,79,86,73,32,82,48,49,44,32,49])),(zac (.str [101,120,112,101,99,116,101,100,32,97,32,114,101,103,105,115,116,101,114]))])])) (zaj (zam (zdI [13,21]) (zai zap (zae 20) (zai zba (zaw zaB 1 [(zae 1)]) (zac (.int 18))))) (zaj (zam (zat 22) (zb5 (zbF [(zac (.str [71,69,84,72,32,82,48])),(zac (.str [59,32,120])),(zac (.str []))]) none (some (zai zba (zaw zaB 1 [(zae 1)]) (zac (.int 4)))))) (zaj (zam (zat 7) (zai zaH (zaI zbw [(zae 22)]) (zbE (tst (zai (opC .Eq) (zae 21) (zac (.str [108,97,98,101,108,32,116,119,105,99,101])))) (zac (.int 2)) (zac (.int 1))))) (zaq (zai (opC .Eq) (zaw zb0 1 [(zb9 "str" zc2 (zac (.str [10])) [(zai zaH (zae 22) (zbF [(zae 13)]))])]) (zaW [(zae 7),(zae 21)])))))))))
noncomputable def zvl:CF:=zaj zoW (zaj (zam (zat 16) zgN) zoX)
theorem zwd {κ:KK} (P:PG κ):CE κ 8 (zar (zaE 51)) ((zcl (zaE 51)).take 12) zoW:=ziP { T0 P with fns:=[fe P 43 rfl rfl (zeK P),fe P 47 rfl rfl (zoR P),fe P 48 rfl rfl (znQ P),fe P 49 rfl rfl (znR P),fe P 50 rfl rfl (zjK P),fe P 37 rfl rfl (zmQ P),fe P 36 rfl rfl (ziv P),feI P 39 rfl P.fL.isFn (zru P)],fnN:=[⟨Str.ofString "_law_row",_,_,_,_,zqg P,(zuo P 42 rfl),(P.gs 42 rfl)⟩] } (by kernel_rfl)
theorem zwe {κ:KK} (P:PG κ):CE κ 8 (zar (zaE 51)) ((zcl (zaE 51)).drop 13) zoX:=ziP { T0 P with fns:=[fe P 16 rfl rfl (zni P),fe P 44 rfl rfl (zfr P),fe P 40 rfl rfl (znM P),fe P 43 rfl rfl (zeK P),fe P 50 rfl rfl (zjK P)] } (by kernel_rfl)
theorem zxT:∀ a0:V,zaK (zar (zaE 51)) [a0]=[some a0,none,none,none,none,none,none,none,none,none,none,none,none,none,none,none,none,none,none,none,none,none,none,none,none,none,none,none,none,none,none,none,none,none,none,none,none,none,none]:=fun x_=>rfl
noncomputable def ztL:List V→Mem→RE:=kFn (zar (zaE 51)) zvl []
set_option tactic.hygienic true in
theorem zxU {κ:KK} (P:PG κ):zaU κ 9 (κ.fa 51) 1 ztL:=zsD (pre:=(zcl (zaE 51)).take 12) (post:=(zcl (zaE 51)).drop 13) (iy:=16) P.toWF (P.fs 51 rfl) (fun x_=>rfl) rfl (by intro i x h;exact zoB (by decide) h) (zwd P) (zwe P)
theorem bind_ok {α β:Type} (v:α) (μ:Mem) (k:α→Mem→RX β):(RX.ok v μ).bind k=k v μ:=Eq.trans rfl rfl
noncomputable def zcQ (H:CF):Fw→Mem→RX Fw:=fun f μ'=>match f with
 | .next σ'=>H σ' μ'
 | .ret v=>.ok (.ret v) μ'
theorem zbS (G H:CF) (σ:Loc) (μ:Mem):zaj G H σ μ=(G σ μ).bind (zcQ H):=Eq.trans rfl rfl
theorem zhi (H:CF) (σ:Loc) (μ:Mem):zcQ H (.next σ) μ=H σ μ:=Eq.trans rfl rfl
noncomputable def zzd:V→Mem→RX Fw:=fun v μ=>.ok (.ret v) μ
theorem zjL (F:EF) (σ:Loc) (μ:Mem):zaq F σ μ=(F σ μ).bind zzd:=Eq.trans rfl rfl
noncomputable def ziS (B:V→Loc→Option Loc) (σ:Loc):V→Mem→RX Fw:=fun v μ=>match B v σ with
 | some σ'=>.ok (.next σ') μ
 | none=>.stuck
theorem zjM (B:V→Loc→Option Loc) (F:EF) (σ:Loc) (μ:Mem):zam B F σ μ=(F σ μ).bind (ziS B σ):=Eq.trans rfl rfl
theorem zrv (i:Nat) (σ:Loc) (v:V) (μ:Mem):ziS (zat i) σ v μ = .ok (.next (σ.set i (some v))) μ:=Eq.trans rfl rfl
theorem zrw (is:List Nat) (σ:Loc) (ds:List D) (μ:Mem):ziS (zdI is) σ (.d (.tup ds)) μ=if ds.length=is.length then .ok (.next (zjp is ds σ)) μ else .stuck:=by
 unfold ziS zdI;split <;> (rename_i h;split at h <;> simp_all)
noncomputable def zsJ (σ:Loc):V→Mem→RX Fw:=fun v μ=>match v with
 | .d .none=>.ok (.next σ) μ
 | _=>.stuck
theorem zqC (F:EF) (σ:Loc) (μ:Mem):zaY F σ μ=(F σ μ).bind (zsJ σ):=Eq.trans rfl rfl
theorem zuq (σ:Loc) (μ:Mem):zsJ σ (.d .none) μ = .ok (.next σ) μ:=Eq.trans rfl rfl
noncomputable def zxV (G H:CF) (σ:Loc):Bool→Mem→RX Fw:=fun b μ=>if b then G σ μ else H σ μ
theorem zvm (T:TF) (G H:CF) (σ:Loc) (μ:Mem):kIf T G H σ μ=(T σ μ).bind (zxV G H σ):=Eq.trans rfl rfl
theorem zxW (G H:CF) (σ:Loc) (b:Bool) (μ:Mem):zxV G H σ b μ=if b=true then G σ μ else H σ μ:=Eq.trans rfl rfl
noncomputable def zze (op:D→D→Option D) (G:EF) (σ:Loc):V→Mem→RE:=fun a μ=>(G σ μ).bind fun b μ2=>zgn μ2 a b op
theorem zxX (op:D→D→Option D) (F G:EF) (σ:Loc) (μ:Mem):zai op F G σ μ=(F σ μ).bind (zze op G σ):=Eq.trans rfl rfl
noncomputable def zzf (Fs:List TF) (σ:Loc):Bool→Mem→RX Bool:=fun b μ=>if b then zbt Fs σ μ else .ok false μ
theorem zsK (F:TF) (Fs:List TF) (σ:Loc) (μ:Mem):zbt (F :: Fs) σ μ=(F σ μ).bind (zzf Fs σ):=Eq.trans rfl rfl
noncomputable def zzg (G H:EF) (σ:Loc):Bool→Mem→RE:=fun b μ=>if b then G σ μ else H σ μ
theorem zxY (F:TF) (G H:EF) (σ:Loc) (μ:Mem):zbE F G H σ μ=(F σ μ).bind (zzg G H σ):=Eq.trans rfl rfl
noncomputable def zvn (Fs:List EF) (σ:Loc):V→Mem→RX (List V):=fun v μ1=>(zbQ Fs σ μ1).bind fun vs μ2=>.ok (v :: vs) μ2
noncomputable def zxZ (v:V):List V→Mem→RX (List V):=fun vs μ2=>.ok (v :: vs) μ2
theorem zfe (F:EF) (Fs:List EF) (σ:Loc) (μ:Mem):zbQ (F :: Fs) σ μ=(F σ μ).bind (zvn Fs σ):=Eq.trans rfl rfl
theorem zgt (Fs:List EF) (σ:Loc) (v:V) (μ:Mem):zvn Fs σ v μ=(zbQ Fs σ μ).bind (zxZ v):=Eq.trans rfl rfl
noncomputable def zzh (C:List D→D):List V→Mem→RE:=fun vs μ=>ofO ((zc1 vs).map C) μ
theorem zoY (Fs:List EF) (σ:Loc) (μ:Mem):zaW Fs σ μ=(zbQ Fs σ μ).bind (zzh .tup):=Eq.trans rfl rfl
theorem zx0 (i:Nat) (F:EF) (σ:Loc) (a:Int) (μ:Mem) (h:σ[i]? = some (some (.d (.int a)))) (b:Int) (μ':Mem) (hF:F σ μ = .ok (.d (.int b)) μ'):zhr i F σ μ = .ok (.next (σ.set i (some (.d (.int (a+b)))))) μ':=by
 show ((σ[i]?).join.bind V.gI).elim _ _=_
 rw [h];show (F σ μ).bind _=_;rw [hF];rfl
noncomputable def ziT (T:TF) (G:CF) (k:Nat):Fw→Mem→RX Fw:=fun f μ'=>match f with
 | .next σ'=>zc3 T G k σ' μ'
 | .ret v=>.ok (.ret v) μ'
noncomputable def zqD (T:TF) (G:CF) (k:Nat) (σ:Loc):Bool→Mem→RX Fw:=fun b μ=>if b then (G σ μ).bind (ziT T G k) else .ok (.next σ) μ
theorem zur (T:TF) (G:CF) (k:Nat) (σ:Loc) (μ:Mem):zc3 T G (k+1) σ μ=(T σ μ).bind (zqD T G k σ):=Eq.trans rfl rfl
theorem zsL (T:TF) (G:CF) (k:Nat) (σ:Loc) (b:Bool) (μ:Mem):zqD T G k σ b μ=if b=true then (G σ μ).bind (ziT T G k) else .ok (.next σ) μ:=Eq.trans rfl rfl
noncomputable def zmT (r:V):V→Mem→RE:=fun v μ=>zsk r μ v
noncomputable def zsM (G:EF) (σ:Loc):V→Mem→RE:=fun r μ=>if zfU "list" r μ then (G σ μ).bind (zmT r) else .stuck
theorem zwf (F G:EF) (σ:Loc) (μ:Mem):zbH F G σ μ=(F σ μ).bind (zsM G σ):=Eq.trans rfl rfl
theorem zus (G:EF) (σ:Loc) (r:V) (μ:Mem):zsM G σ r μ=if zfU "list" r μ=true then (G σ μ).bind (zmT r) else .stuck:=Eq.trans rfl rfl
theorem zmU {μ:Mem} {k:Nat} {ds:List D} (h:μ[k]? = some (.list ds)):zfU "list" (.ref k) μ=true:=by unfold zfU res;simp only [h];rfl
theorem zsN {μ:Mem} {k:Nat} {ds:List D} {x:D} (h:μ[k]? = some (.list ds)) (hl:ds.length≤10000000):zmT (.ref k) (.d x) μ = .ok (.d .none) (μ.set k (.list (ds ++ [x]))):=by
 show (atL μ k).elim _ _=_
 rw [znX h];exact if_pos hl
noncomputable def zsO:List V→Mem→RE:=fun vs μ=>match zc1 vs with
 | some ds=>.ok (.ref μ.length) (μ ++ [.list ds])
 | none=>.stuck
theorem zwg (Fs:List EF) (σ:Loc) (μ:Mem):zdM Fs σ μ=(zbQ Fs σ μ).bind zsO:=Eq.trans rfl rfl
theorem zut (vs:List V) (μ:Mem):zsO vs μ=match zc1 vs with
 | some ds=>.ok (.ref μ.length) (μ ++ [.list ds])
 | none=>.stuck:=Eq.trans rfl rfl
noncomputable def zqE (F2:EF) (σ:Loc):V→Mem→RX Fw:=fun v1 μ=>(F2 σ μ).bind fun v2 μ=>v1.gI.elim .stuck fun r=>v2.gS.elim .stuck fun w=>.exc (.asm r w) μ
noncomputable def zoZ (v1:V):V→Mem→RX Fw:=fun v2 μ=>v1.gI.elim .stuck fun r=>v2.gS.elim .stuck fun w=>.exc (.asm r w) μ
theorem zuu (F1 F2:EF) (σ:Loc) (μ:Mem):zdy F1 F2 σ μ=(F1 σ μ).bind (zqE F2 σ):=Eq.trans rfl rfl
theorem zsP (F2:EF) (σ:Loc) (v1:V) (μ:Mem):zqE F2 σ v1 μ=(F2 σ μ).bind (zoZ v1):=Eq.trans rfl rfl
theorem zrx (r:Int) (w:List Nat) (μ:Mem):zoZ (.d (.int r)) (.d (.str w)) μ = .exc (.asm r w) μ:=Eq.trans rfl rfl
noncomputable def zcK (B:V→Loc→Option Loc) (G:CF):List D→CF
 | []=>fun σ μ=>.ok (.next σ) μ
 | d :: ds=>fun σ μ=>match B (.d d) σ with
  | none=>.stuck
  | some σ'=>(G σ' μ).bind fun f μ'=>match f with
   | .next σ''=>zcK B G ds σ'' μ'
   | .ret v=>.ok (.ret v) μ'
theorem zsQ (B:V→Loc→Option Loc) (G:CF) (ds:List D):∀ (fuel i:Nat) (σ:Loc) (μ:Mem),ds.length < fuel+i→i≤ds.length→zc6 (fun x_=>some ds) B G fuel i σ μ=zcK B G (ds.drop i) σ μ:=by
 intro fuel
 induction fuel with
 | zero=>intro i σ μ h1 h2;lia
 | succ fuel ih=>
  intro i σ μ h1 h2
  unfold zc6
  dsimp only
  rcases Nat.lt_or_ge i ds.length with h | h
  ·rw [List.getElem?_eq_getElem h,List.drop_eq_getElem_cons h]
   unfold zcK
   dsimp only
   cases B (.d ds[i]) σ with
   | none=>rfl
   | some σ'=>
    dsimp only
    cases G σ' μ with
    | ok f μ'=>
     cases f with
     | next σ''=>exact ih (i+1) σ'' μ' (by lia) (by lia)
     | ret v=>rfl
    | exc=>rfl
    | stuck=>rfl
  ·rw [List.getElem?_eq_none h,List.drop_eq_nil_of_le h];rfl
theorem zlw (B:V→Loc→Option Loc) (G:CF) (ds:List D) (σ:Loc) (μ:Mem):zc6 (fun x_=>some ds) B G (ds.length+1) 0 σ μ=zcK B G ds σ μ:=by
 rw [zsQ B G ds _ 0 σ μ (by lia) (by lia),List.drop_zero]
noncomputable def zkh (B:V→Loc→Option Loc) (G:CF) (ds:List D):Fw→Mem→RX Fw:=fun f μ'=>match f with
 | .next σ''=>zcK B G ds σ'' μ'
 | .ret v=>.ok (.ret v) μ'
noncomputable def zsR (B:V→Loc→Option Loc) (G:CF) (σ:Loc):V→Mem→RX Fw:=fun v μ=>match v with
 | .d (.str x)=>if x.all (· < 128) then zc6 (fun x_=>some (x.map fun y=>.str [y])) B G (x.length+1) 0 σ μ else .stuck
 | _=>.stuck
theorem zwh (F:EF) (B:V→Loc→Option Loc) (G:CF) (σ:Loc) (μ:Mem):zlM F B G σ μ=(F σ μ).bind (zsR B G σ):=Eq.trans rfl rfl
theorem zuv (B:V→Loc→Option Loc) (G:CF) (σ:Loc) (x:List Nat) (μ:Mem):zsR B G σ (.d (.str x)) μ=if x.all (fun c=>decide (c < 128))=true then zc6 (fun x_=>some (x.map fun y=>.str [y])) B G (x.length+1) 0 σ μ else .stuck:=Eq.trans rfl rfl
noncomputable def zsS (B:V→Loc→Option Loc) (G:CF) (σ:Loc):V→Mem→RX Fw:=fun v μ=>match v with
 | .d (.int k)=>if k≤1000000∧-1000000≤k then zc6 (fun x_=>some ((List.range k.toNat).map fun i=>.int (i:Nat))) B G (k.toNat+1) 0 σ μ else .stuck
 | _=>.stuck
theorem zwi (F:EF) (B:V→Loc→Option Loc) (G:CF) (σ:Loc) (μ:Mem):zex F B G σ μ=(F σ μ).bind (zsS B G σ):=Eq.trans rfl rfl
theorem zuw (B:V→Loc→Option Loc) (G:CF) (σ:Loc) (n:Nat) (μ:Mem) (h:n≤1000000):zsS B G σ (.d (.int n)) μ=zcK B G ((List.range n).map fun i=>.int (i:Nat)) σ μ:=by
 show (if (n:Int)≤1000000∧-1000000≤(n:Int) then _ else _)=_
 rw [if_pos (by lia)]
 have:=zlw B G ((List.range n).map fun i=>.int (i:Nat)) σ μ
 rw [List.length_map,List.length_range] at this
 exact this
noncomputable def zo0 (B:V→Loc→Option Loc) (G:CF) (σ:Loc):V→Mem→RX Fw:=fun v μ=>match zcP v μ with
 | some ds=>zc6 (zcP v) B G (ds.length+1) 0 σ μ
 | none=>.stuck
theorem znl (F:EF) (B:V→Loc→Option Loc) (G:CF) (σ:Loc) (μ:Mem):zhc F B G σ μ=(F σ μ).bind (zo0 B G σ):=Eq.trans rfl rfl
theorem zry (B:V→Loc→Option Loc) (G:CF) (σ:Loc) (ds:List D) (μ:Mem):zo0 B G σ (.d (.lst ds)) μ=zcK B G ds σ μ:=by
 show zc6 (fun x_=>some ds) B G (ds.length+1) 0 σ μ=_
 exact zlw B G ds σ μ
noncomputable def zsT (i:Nat):V→Mem→RE:=fun v μ=>zsw i v μ
theorem zwj (i:Nat) (F:EF) (σ:Loc) (μ:Mem):zec i F σ μ=(F σ μ).bind (zsT i):=Eq.trans rfl rfl
theorem zux {μ:Mem} {k:Nat} {fs:List D} (h:μ[k]? = some (.inst fs)) (i:Nat):zsT i (.ref k) μ=ofO (fs[i]?) μ:=by show (atN μ k).elim _ _=_;rw [znY h];rfl
noncomputable def zsU (i:Nat) (F:EF) (σ:Loc):V→Mem→RX Fw:=fun o μ=>o.gR.elim .stuck fun k=>(atN μ k).elim .stuck fun fs=>((fs[i]?).bind D.gI).elim .stuck fun a=>(F σ μ).bind fun v μ'=>v.gI.elim .stuck fun b=>(atN μ' k).elim .stuck fun fs'=>(zej i (.int (a+b)) fs').elim .stuck fun fs''=>.ok (.next σ) (μ'.set k (.inst fs''))
theorem zwk (i:Nat) (O F:EF) (σ:Loc) (μ:Mem):zlP i O F σ μ=(O σ μ).bind (zsU i F σ):=Eq.trans rfl rfl
theorem zuy {μ:Mem} {k i:Nat} {fs:List D} {a b:Int} {F:EF} {σ:Loc} (h:μ[k]? = some (.inst fs)) (ha:fs[i]? = some (.int a)) (hF:F σ μ = .ok (.d (.int b)) μ):zsU i F σ (.ref k) μ = .ok (.next σ) (μ.set k (.inst (fs.set i (.int (a+b))))):=by
 have hi:i < fs.length:=(List.getElem?_eq_some_iff.mp ha).1
 show (atN μ k).elim _ _=_
 rw [znY h]
 show ((fs[i]?).bind D.gI).elim _ _=_
 rw [ha]
 show (F σ μ).bind _=_
 rw [hF]
 show (atN μ k).elim _ _=_
 rw [znY h]
 show (zej i (.int (a+b)) fs).elim _ _=_
 unfold zej
 rw [if_pos hi];rfl
noncomputable def zsV (i:Nat) (O:EF) (σ:Loc):V→Mem→RX Fw:=fun v μ=>(O σ μ).bind fun o μ=>o.gR.elim .stuck fun k=>v.gD.elim .stuck fun d=>(atN μ k).elim .stuck fun fs=>(zej i d fs).elim .stuck fun fs'=>.ok (.next σ) (μ.set k (.inst fs'))
noncomputable def zqF (i:Nat) (σ:Loc) (v:V):V→Mem→RX Fw:=fun o μ=>o.gR.elim .stuck fun k=>v.gD.elim .stuck fun d=>(atN μ k).elim .stuck fun fs=>(zej i d fs).elim .stuck fun fs'=>.ok (.next σ) (μ.set k (.inst fs'))
theorem zwl (i:Nat) (F O:EF) (σ:Loc) (μ:Mem):ziN i F O σ μ=(F σ μ).bind (zsV i O σ):=Eq.trans rfl rfl
theorem zuz (i:Nat) (O:EF) (σ:Loc) (v:V) (μ:Mem):zsV i O σ v μ=(O σ μ).bind (zqF i σ v):=Eq.trans rfl rfl
theorem zsW {μ:Mem} {k i:Nat} {fs fs':List D} {d:D} {σ:Loc} (h:μ[k]? = some (.inst fs)) (hf:zej i d fs=some fs'):zqF i σ (.d d) (.ref k) μ = .ok (.next σ) (μ.set k (.inst fs')):=by
 show (atN μ k).elim _ _=_
 rw [znY h]
 show (zej i d fs).elim _ _=_
 rw [hf];rfl
noncomputable def zmV (Φ:List V→Mem→RE) (k:Nat) (Fs:List EF) (σ:Loc):V→Mem→RE:=fun r μ=>if zlT r μ then (zbQ Fs σ μ).bind fun vs μ=>if vs.length+1=k then Φ (r :: vs) μ else .stuck else .stuck
noncomputable def zo1 (Φ:List V→Mem→RE) (k:Nat) (r:V):List V→Mem→RE:=fun vs μ=>if vs.length+1=k then Φ (r :: vs) μ else .stuck
theorem zuA (Φ:List V→Mem→RE) (k:Nat) (F:EF) (Fs:List EF) (σ:Loc) (μ:Mem):zaS Φ k F Fs σ μ=(F σ μ).bind (zmV Φ k Fs σ):=Eq.trans rfl rfl
theorem zsX {μ:Mem} {j:Nat} {fs:List D} (h:μ[j]? = some (.inst fs)) (Φ:List V→Mem→RE) (k:Nat) (Fs:List EF) (σ:Loc):zmV Φ k Fs σ (.ref j) μ=(zbQ Fs σ μ).bind (zo1 Φ k (.ref j)):=by
 unfold zmV zlT;simp only [h,if_true];rfl
theorem zrz (Φ:List V→Mem→RE) (k:Nat) (r:V) (vs:List V) (μ:Mem):zo1 Φ k r vs μ=if vs.length+1=k then Φ (r :: vs) μ else .stuck:=Eq.trans rfl rfl
noncomputable def zo2 (Fs:List EF) (acc:List Nat) (σ:Loc):List Nat→Mem→RE:=fun y μ=>if acc.length+y.length≤16777216 then zcc Fs (acc ++ y) σ μ else .stuck
theorem zsY (F:EF) (Fs:List EF) (acc:List Nat) (σ:Loc) (μ:Mem):zcc (F :: Fs) acc σ μ=((F σ μ).bind toS).bind (zo2 Fs acc σ):=Eq.trans rfl rfl
theorem zrA (Fs:List EF) (acc:List Nat) (σ:Loc) (y:List Nat) (μ:Mem):zo2 Fs acc σ y μ=if acc.length+y.length≤16777216 then zcc Fs (acc ++ y) σ μ else .stuck:=Eq.trans rfl rfl
theorem znm (nb:Nat) (σ:Loc) (μ:Mem):zaQ nb (.ok (.next σ) μ) = .ok (.d .none) (μ.take nb):=Eq.trans rfl rfl
theorem zhU (nb:Nat) (x:D) (μ:Mem):zaQ nb (.ok (.ret (.d x)) μ) = .ok (.d x) (μ.take nb):=Eq.trans rfl rfl
theorem zjN (nb:Nat) (x:Xn) (μ:Mem):zaQ nb (.exc x μ) = .exc x (μ.take nb):=Eq.trans rfl rfl
theorem zsZ (nb:Nat) {k:Nat} {μ:Mem} {ds:List D} (h:μ[k]? = some (.list ds)) (hk:¬ k < nb):zaQ nb (.ok (.ret (.ref k)) μ) = .ok (.d (.lst ds)) (μ.take nb):=by
 unfold zaQ zhO frz res;simp only [h,if_neg hk];rfl
section
variable {α:Type} {σ:Loc} {μ μ1 μ2 μ3:Mem} {F G H:EF} {Fs:List EF} {T:TF} {Ts:List TF} {v a b:V} {vs:List V} {x y z:D} {ds:List D} {t u:Bool}
theorem zad {i:Nat} (h:σ[i]? = some (some v)):zae i σ μ = .ok v μ:=by unfold zae;rw [h]
theorem zab:zac x σ μ = .ok (.d x) μ:=rfl
theorem zah {op:D→D→Option D} (h1:F σ μ = .ok a μ1) (h2:G σ μ1 = .ok b μ2) (h3:res μ2 a=some x) (h4:res μ2 b=some y) (h5:op x y=some z):zai op F G σ μ = .ok (.d z) μ2:=by
 rw [zxX,h1,bind_ok];show (G σ μ1).bind _=_;rw [h2,bind_ok];show zgn μ2 a b op=_;unfold zgn;rw [h3,h4];show ofO _ _=_;rw [h5];rfl
theorem zak (h:F σ μ = .ok (.d (.bool t)) μ1):tst F σ μ = .ok t μ1:=by unfold tst;rw [h];rfl
theorem zdo (h:T σ μ = .ok t μ1):zdd T σ μ = .ok (!t) μ1:=by unfold zdd;rw [h];rfl
theorem zc4 (h:T σ μ = .ok t μ1):zbt [T] σ μ = .ok t μ1:=by unfold zbt;rw [h];cases t <;> rfl
theorem ze1 {T2:TF} (h:T σ μ = .ok t μ) (h2:t=true→zbt (T2 :: Ts) σ μ = .ok u μ):zbt (T :: T2 :: Ts) σ μ = .ok (t && u) μ:=by
 rw [zbt];dsimp only;rw [h];cases t
 ·rfl
 ·exact h2 rfl
theorem zbI (h:T σ μ = .ok t μ1):kOr [T] σ μ = .ok t μ1:=by unfold kOr;rw [h];cases t <;> rfl
theorem zbR {T2:TF} (h:T σ μ = .ok t μ) (h2:t=false→kOr (T2 :: Ts) σ μ = .ok u μ):kOr (T :: T2 :: Ts) σ μ = .ok (t || u) μ:=by
 rw [kOr];dsimp only;rw [h];cases t
 ·exact h2 rfl
 ·rfl
theorem zgu (h:F σ μ = .ok (.d (.bool t)) μ1):zbt (zcu [F]) σ μ = .ok t μ1:=zc4 (zak h)
theorem zff (h:F σ μ = .ok (.d (.bool t)) μ) (h2:t=true→zbt (zcu (G :: Fs)) σ μ = .ok u μ):zbt (zcu (F :: G :: Fs)) σ μ = .ok (t && u) μ:=ze1 (zak h) h2
theorem zs0 (h:F σ μ = .ok (.d (.bool t)) μ1):kOr (zcu [F]) σ μ = .ok t μ1:=zbI (zak h)
theorem zrB (h:F σ μ = .ok (.d (.bool t)) μ) (h2:t=false→kOr (zcu (G :: Fs)) σ μ = .ok u μ):kOr (zcu (F :: G :: Fs)) σ μ = .ok (t || u) μ:=zbR (zak h) h2
theorem r_B (h:T σ μ = .ok t μ1):kB T σ μ = .ok (.d (.bool t)) μ1:=by unfold kB;rw [h];rfl
theorem zeL {c1 c2:CmpOp} (h1:F σ μ = .ok (.d x) μ) (h2:G σ μ = .ok (.d y) μ) (h3:zfR c1 x y=some t) (h4:H σ μ = .ok (.d z) μ) (h5:zfR c2 y z=some u):zcO c1 c2 F G H σ μ = .ok (t && u) μ:=by
 unfold zcO
 rw [h1,bind_ok,h2,bind_ok]
 have e1:zgn μ (.d x) (.d y) (opC c1) = .ok (.d (.bool t)) μ:=by show ofO ((zfR c1 x y).map .bool) μ=_;rw [h3];rfl
 have e2:zgn μ (.d y) (.d z) (opC c2) = .ok (.d (.bool u)) μ:=by show ofO ((zfR c2 y z).map .bool) μ=_;rw [h5];rfl
 rw [e1]
 show (RX.ok t μ).bind _=_
 rw [bind_ok]
 cases t
 ·rfl
 ·rw [if_pos rfl,h4,bind_ok,e2];rfl
theorem zjO (h:T σ μ = .ok t μ1) (ht:t=true) {r:RE} (h1:F σ μ1=r):zbE T F G σ μ=r:=by unfold zbE;rw [h,bind_ok,if_pos ht];exact h1
theorem zjP (h:T σ μ = .ok t μ1) (ht:t=false) {r:RE} (h1:G σ μ1=r):zbE T F G σ μ=r:=by subst ht;unfold zbE;rw [h,bind_ok,if_neg (by decide)];exact h1
theorem zvo (h:T σ μ = .ok t μ1) (ht:t=true):kOr (T :: Ts) σ μ = .ok true μ1:=by subst ht;rw [kOr];dsimp only;rw [h];rfl
theorem zn5 (h:T σ μ = .ok t μ1) (ht:t=false) (h2:kOr Ts σ μ1 = .ok u μ2):kOr (T :: Ts) σ μ = .ok u μ2:=by subst ht;rw [kOr];dsimp only;rw [h];exact h2
theorem zs1 (h:T σ μ = .ok t μ1) (ht:t=false):zbt (T :: Ts) σ μ = .ok false μ1:=by subst ht;rw [zbt];dsimp only;rw [h];rfl
theorem zo3 (h:T σ μ = .ok t μ1) (ht:t=true) (h2:zbt Ts σ μ1 = .ok u μ2):zbt (T :: Ts) σ μ = .ok u μ2:=by subst ht;rw [zbt];dsimp only;rw [h];exact h2
theorem zag:zbQ [] σ μ = .ok [] μ:=rfl
theorem zaf (h1:F σ μ = .ok v μ1) (h2:zbQ Fs σ μ1 = .ok vs μ2):zbQ (F :: Fs) σ μ = .ok (v :: vs) μ2:=by rw [zfe,h1,bind_ok,zgt,h2];rfl
theorem zas {Φ:List V→Mem→RE} {k:Nat} {r:RE} (h1:zbQ Fs σ μ = .ok vs μ1) (hk:vs.length=k) (h2:Φ vs μ1=r):zaw Φ k Fs σ μ=r:=by unfold zaw;rw [h1,bind_ok,if_pos hk];exact h2
theorem zaF {op:List D→Option D} (h1:zbQ Fs σ μ = .ok vs μ1) (h2:zeG μ1 vs=some ds) (h3:op ds=some z):zaI op Fs σ μ = .ok (.d z) μ1:=by unfold zaI;rw [h1,bind_ok];unfold zmB;rw [h2];show ofO _ _=_;rw [h3];rfl
theorem zco {op:List D→Option D} {Ty:String} (h0:F σ μ = .ok v μ1) (ht:zfU Ty v μ1=true) (h1:zbQ Fs σ μ1 = .ok vs μ2) (h2:zeG μ2 (v :: vs)=some ds) (h3:op ds=some z):zb9 Ty op F Fs σ μ = .ok (.d z) μ2:=by
 unfold zb9;rw [h0,bind_ok,if_pos ht,h1,bind_ok];unfold zmB;rw [h2];show ofO _ _=_;rw [h3];rfl
theorem za2 (h1:zbQ Fs σ μ = .ok vs μ1) (h2:zc1 vs=some ds):zaW Fs σ μ = .ok (.d (.tup ds)) μ1:=by unfold zaW;rw [h1,bind_ok,h2];rfl
theorem zbA (h1:zbQ Fs σ μ = .ok vs μ1) (h2:zc1 vs=some ds):zbF Fs σ μ = .ok (.d (.lst ds)) μ1:=by unfold zbF;rw [h1,bind_ok,h2];rfl
theorem zdz {i:Int} (h:F σ μ = .ok (.d (.int i)) μ1):zcW F σ μ = .ok (.d (.int (-i))) μ1:=by unfold zcW;rw [h];rfl
theorem zcy:zfq none σ μ = .ok none μ:=rfl
theorem zcL {i:Int} (h:F σ μ = .ok (.d (.int i)) μ1):zfq (some F) σ μ = .ok (some i) μ1:=by unfold zfq;dsimp only;rw [h];rfl
theorem zcz {L U:Option EF} {lo hi:Option Int} (h:F σ μ = .ok a μ1) (hl:zfq L σ μ1 = .ok lo μ2) (hu:zfq U σ μ2 = .ok hi μ3) (hr:res μ3 a=some x) (ho:zeX x lo hi=some z):zb5 F L U σ μ = .ok (.d z) μ3:=by
 unfold zb5;rw [h,bind_ok,hl,bind_ok,hu,bind_ok,hr];show ofO _ _=_;rw [ho];rfl
theorem zhx {i:Int} (h:F σ μ = .ok (.d (.int i)) μ1) (hf:ze6 i=true):zde F σ μ = .ok (.d (.str (zax i))) μ1:=by unfold zde;rw [h,bind_ok];exact if_pos hf
theorem zx1 {s:List Nat} (h:F σ μ = .ok (.d (.str s)) μ1) (hf:s.length≤16777216):zde F σ μ = .ok (.d (.str s)) μ1:=by unfold zde;rw [h,bind_ok];exact if_pos hf
theorem ziw {s:List Nat}:zcc [] s σ μ = .ok (.d (.str s)) μ:=rfl
theorem zx2 {s y:List Nat} {r:RE} (h:F σ μ = .ok (.d (.str y)) μ1) (hl:s.length+y.length≤16777216) (h2:zcc Fs (s ++ y) σ μ1=r):zcc (F :: Fs) s σ μ=r:=by
 rw [zsY,h];show (RX.ok y μ1).bind _=_;rw [bind_ok,zrA,if_pos hl];exact h2
theorem zaP {Φ:List V→Mem→RE} {j k:Nat} {r:RE} {fs:List D} (h0:F σ μ = .ok (.ref j) μ1) (hi:μ1[j]? = some (.inst fs)) (h1:zbQ Fs σ μ1 = .ok vs μ2) (hk:vs.length+1=k) (h2:Φ (.ref j :: vs) μ2=r):zaS Φ k F Fs σ μ=r:=by
 rw [zuA,h0,bind_ok,zsX hi,h1,bind_ok,zrz,if_pos hk];exact h2
theorem zx3 {k:Nat} {es:List D} (h0:F σ μ = .ok (.ref k) μ1) (hi:μ1[k]? = some (.list es)) (h1:G σ μ1 = .ok (.d x) μ2) (hg:μ2[k]? = some (.list ds)) (hl:ds.length≤10000000):zbH F G σ μ = .ok (.d .none) (μ2.set k (.list (ds ++ [x]))):=by
 rw [zwf,h0,bind_ok,zus,if_pos (zmU hi),h1,bind_ok,zsN hg hl]
theorem zx4 {n:Nat} (h1:zbQ Fs σ μ = .ok vs μ1) (h2:zc1 vs=some ds) (hn:μ1.length=n):zdM Fs σ μ = .ok (.ref n) (μ1 ++ [.list ds]):=by subst hn;rw [zwg,h1,bind_ok,zut,h2]
theorem zwm {n:Nat} (hn:μ.length=n):zim σ μ = .ok (.ref n) (μ ++ [.dcI []]):=by subst hn;rfl
theorem zwn {n:Nat} (hn:μ.length=n):zgN σ μ = .ok (.ref n) (μ ++ [.dcS []]):=by subst hn;rfl
theorem zeM {i k:Nat} {fs:List D} (h0:F σ μ = .ok (.ref k) μ1) (hi:μ1[k]? = some (.inst fs)) (h1:fs[i]? = some x):zec i F σ μ = .ok (.d x) μ1:=by rw [zwj,h0,bind_ok,zux hi,h1];rfl
end
section
variable {β:Type} {K:RX Fw→β} {r:β} {σ σ':Loc} {μ μ1 μ2 μ3 μ4:Mem} {F O I:EF} {T:TF} {A B R S:CF} {v o w:V} {ds:List D} {t:Bool} {i:Nat}
theorem zau (h:F σ μ = .ok v μ1) (h2:K (R (σ.set i (some v)) μ1)=r):K (zaj (zam (zat i) F) R σ μ)=r:=by
 rw [zbS,zjM,h,bind_ok,zrv,bind_ok,zhi];exact h2
theorem zgP {x:Xn} {P:V→Loc→Option Loc} (h:F σ μ = .exc x μ1) (h2:K (.exc x μ1)=r):K (zaj (zam P F) R σ μ)=r:=by rw [zbS,zjM,h];exact h2
theorem zb7 {is:List Nat} (h:F σ μ = .ok (.d (.tup ds)) μ1) (hl:ds.length=is.length) (h2:K (R (zjp is ds σ) μ1)=r):K (zaj (zam (zdI is) F) R σ μ)=r:=by
 rw [zbS,zjM,h,bind_ok,zrw,if_pos hl,bind_ok,zhi];exact h2
theorem zbY (h:F σ μ = .ok (.d .none) μ1) (h2:K (R σ μ1)=r):K (zaj (zaY F) R σ μ)=r:=by rw [zbS,zqC,h,bind_ok,zuq,bind_ok,zhi];exact h2
theorem zdT {x:Xn} (h:F σ μ = .exc x μ1) (h2:K (.exc x μ1)=r):K (zaj (zaY F) R σ μ)=r:=by rw [zbS,zqC,h];exact h2
theorem zaD (h:T σ μ = .ok t μ1) (h1:t=true→K (zaj A R σ μ1)=r) (h2:t=false→K (zaj B R σ μ1)=r):K (zaj (kIf T A B) R σ μ)=r:=by
 rw [zbS,zvm,h,bind_ok,zxW]
 cases t
 ·exact h2 rfl
 ·exact h1 rfl
theorem zav (h:K (R σ μ)=r):K (zaj zaz R σ μ)=r:=h
theorem zbb {A B:CF} (h:K (zaj A (zaj B R) σ μ)=r):K (zaj (zaj A B) R σ μ)=r:=by
 have e:zaj (zaj A B) R σ μ=zaj A (zaj B R) σ μ:=by
  rw [zbS,zbS,zbS,RX.bind_bind]
  congr 1;funext f μ'
  cases f <;> rfl
 rw [e];exact h
theorem zay (h:F σ μ = .ok v μ1) (h2:K (.ok (.ret v) μ1)=r):K (zaj (zaq F) R σ μ)=r:=by rw [zbS,zjL,h];exact h2
theorem zeo {G:EF} (h:K (zaj (kIf T (zaq F) (zaq G)) R σ μ)=r):K (zaj (zaq (zbE T F G)) R σ μ)=r:=by
 have e:zaj (kIf T (zaq F) (zaq G)) R σ μ=zaj (zaq (zbE T F G)) R σ μ:=by
  rw [zbS,zbS,zvm,zjL,zxY]
  cases T σ μ with
  | ok t μ'=>cases t <;> rfl
  | exc=>rfl
  | stuck=>rfl
 rw [← e];exact h
theorem zki {a b:Int} (hv:σ[i]? = some (some (.d (.int a)))) (h:F σ μ = .ok (.d (.int b)) μ1) (h2:K (R (σ.set i (some (.d (.int (a+b))))) μ1)=r):K (zaj (zhr i F) R σ μ)=r:=by
 rw [zbS,zx0 i F σ a μ hv b μ1 h,bind_ok,zhi];exact h2
theorem zmW (hv:F σ μ = .ok v μ1) (ho:O σ μ1 = .ok o μ2) (hi:I σ μ2 = .ok w μ3) (hs:zkf v o w μ3=some μ4) (h2:K (R σ μ4)=r):K (zaj (zeH F O I) R σ μ)=r:=by
 rw [zbS];unfold zeH;rw [hv,bind_ok,ho,bind_ok,hi,bind_ok,hs];exact h2
theorem zhj {F1 F2:EF} {n:Int} {x:List Nat} (h1:F1 σ μ = .ok (.d (.int n)) μ1) (h2:F2 σ μ1 = .ok (.d (.str x)) μ2) (h3:K (.exc (.asm n x) μ2)=r):K (zaj (zdy F1 F2) R σ μ)=r:=by
 rw [zbS,zuu,h1,bind_ok,zsP,h2,bind_ok,zrx];exact h3
theorem zaM (h:K (zaj S zaz σ μ)=r):K (S σ μ)=r:=by
 have e:zaj S zaz σ μ=S σ μ:=by
  rw [zbS]
  cases S σ μ with
  | ok f μ'=>cases f <;> rfl
  | exc=>rfl
  | stuck=>rfl
 rw [← e];exact h
theorem zbD (h:K (.ok (.next σ) μ)=r):K (zaz σ μ)=r:=h
end
theorem zbh {sc:Scope} {G:CF} {vs:List V} {μ:Mem} {σ:Loc} {r:RE} (hst:zaK sc vs=σ) (h:zaQ μ.length (G σ μ)=r):kFn sc G [] vs μ=r:=by
 rw [zlR,List.append_nil,hst];exact h
theorem zfs {a b:Int} (h:b.natAbs < 9223372036854775808):zev (.int a) (.int b)=some (.int (a * b)):=if_pos h
theorem zmc {a b:Int} (h:0 < b∧b < 1073741824):zil (.int a) (.int b)=some (.int (a / b)):=if_pos h
theorem zb2 {a b:Int} (h:0 < b):zba (.int a) (.int b)=some (.int (a % b)):=if_pos h
theorem zvp {a b:Int} (h:0≤b∧b < 1000∧0≤a∧a < 1000):zdL (.int a) (.int b)=some (.int (a ^ b.toNat)):=if_pos h
theorem zf0 {x:List Nat} (h:x.length≤16777216):zbw [.str x]=some (.int x.length):=if_pos h
theorem zdg {x:List D} (h:x.length≤16777216):zbw [.lst x]=some (.int x.length):=if_pos h
theorem zca {a:Int} (h:ze6 a=true):zc5 [.int a]=some (.str (zax a)):=if_pos h
theorem zem {x:List Nat} {lo hi:Option Int} (h:x.length≤16777216):zeX (.str x) lo hi=some (.str (slc x lo hi)):=if_pos h
theorem zs2 {x:List D} {lo hi:Option Int} (h:x.length≤16777216):zeX (.lst x) lo hi=some (.lst (slc x lo hi)):=if_pos h
theorem zcv {μ:Mem} {x y:D} (h:x=y):zaQ μ.length (.ok (.ret (.d x)) μ) = .ok (.d y) μ:=by subst h;rw [zhU,List.take_length]
theorem zdh {μ:Mem} {x y:Bool} (h:x=y):zaQ μ.length (.ok (.ret (.d (.bool x))) μ) = .ok (.d (.bool y)) μ:=zcv (by rw [h])
theorem zcw {μ:Mem} {x y:Int} (h:x=y):zaQ μ.length (.ok (.ret (.d (.int x))) μ) = .ok (.d (.int y)) μ:=zcv (by rw [h])
theorem zbd {μ:Mem} {x y:List Nat} (h:x=y):zaQ μ.length (.ok (.ret (.d (.str x))) μ) = .ok (.d (.str y)) μ:=zcv (by rw [h])
theorem zdN {a b:Int}:opC .Eq (.int a) (.int b)=some (.bool (decide (a=b))):=rfl
theorem zhV {a b:Int}:opC .NotEq (.int a) (.int b)=some (.bool (!decide (a=b))):=rfl
theorem zft {a b:Int}:opC .Lt (.int a) (.int b)=some (.bool (decide (a < b))):=rfl
theorem zvq {a b:Int}:opC .LtE (.int a) (.int b)=some (.bool (decide (a≤b))):=rfl
theorem zhd {a b:Int}:opC .Gt (.int a) (.int b)=some (.bool (decide (b < a))):=rfl
theorem zmd {a b:Int}:opC .GtE (.int a) (.int b)=some (.bool (decide (b≤a))):=rfl
theorem zgI {a b:Int}:zfR .Lt (.int a) (.int b)=some (decide (a < b)):=rfl
theorem zfu {a b:Int}:zfR .LtE (.int a) (.int b)=some (decide (a≤b)):=rfl
theorem zaT {a b:List Nat}:opC .Eq (.str a) (.str b)=some (.bool (decide (a=b))):=rfl
theorem zcm {a b:List Nat}:opC .NotEq (.str a) (.str b)=some (.bool (!decide (a=b))):=rfl
theorem zzi:opC .Is .none .none=some (.bool true):=rfl
theorem zzj {a:List Nat}:opC .Is (.str a) .none=some (.bool false):=rfl
theorem zaO:zbl []=some []:=rfl
theorem zal {x:List Nat} {ds:List D} {ys:List (List Nat)} (h:zbl ds=some ys):zbl (.str x :: ds)=some (x :: ys):=by rw [zbl,h];rfl
theorem zaX:∀ {l:List (List Nat)},zbl (l.map .str)=some l
 | []=>rfl
 | _ :: _=>zal zaX
theorem zbX {x:List Nat} {ds:List D} {ys:List (List Nat)} (h:zbl ds=some ys):opC .In (.str x) (.tup ds)=some (.bool (decide (x∈ys))):=by show ((zbl ds).map _).map _=_;rw [h];rfl
theorem zc7 {x:List Nat} {ds:List D} {ys:List (List Nat)} (h:zbl ds=some ys):opC .In (.str x) (.lst ds)=some (.bool (decide (x∈ys))):=by show ((zbl ds).map _).map _=_;rw [h];rfl
theorem zrC {x:List Nat} {ds:List D} {ys:List (List Nat)} (h:zbl ds=some ys):opC .NotIn (.str x) (.tup ds)=some (.bool (!decide (x∈ys))):=by show (((zbl ds).map _).map _).map _=_;rw [h];rfl
theorem zvr {x:List Nat} {ds:List D} {ys:List (List Nat)} (h:zbl ds=some ys):opC .NotIn (.str x) (.lst ds)=some (.bool (!decide (x∈ys))):=by show (((zbl ds).map _).map _).map _=_;rw [h];rfl
theorem zvs {c:Nat} {y:List Nat}:opC .In (.str [c]) (.str y)=some (.bool (decide (c∈y))):=rfl
theorem zfg {a b:Int}:zfp (.int a) (.int b)=some (.int (a - b)):=rfl
theorem zaZ {a b:Int}:zaH (.int a) (.int b)=some (.int (a+b)):=rfl
theorem zx5 {x y:List Nat}:zol [.str x,.str y]=some (.bool (zrb x y)):=rfl
theorem zn6 {ds:List D} {ys:List (List Nat)} {x:List Nat} (h:zbl ds=some ys) (hl:ys.length≤1000) (hx:x∈ys):zkd [.lst ds,.str x]=some (.int (ys.idxOf x:Nat)):=by
 show (zbl ds).bind _=_;rw [h];exact if_pos ⟨hl,hx⟩
theorem za4 {ds:List D} {i:Int} {d:D} (hs:small i) (h:at? ds i=some d):zap (.tup ds) (.int i)=some d:=by show (if small i then _ else _)=_;rw [if_pos hs,h]
theorem zwo {x:List Nat} {i:Int} {c:Nat} (hs:small i) (h:at? x i=some c):zap (.str x) (.int i)=some (.str [c]):=by show (if small i then _ else _)=_;rw [if_pos hs,h];rfl
theorem zaA {μ:Mem}:zeG μ []=some []:=rfl
theorem zan {μ:Mem} {v:V} {x:D} {vs:List V} {ds:List D} (h:res μ v=some x) (h2:zeG μ vs=some ds):zeG μ (v :: vs)=some (x :: ds):=by unfold zeG;rw [h];show (zeG μ vs).map _=_;rw [h2];rfl
theorem zaa {μ:Mem} {x:D}:res μ (.d x)=some x:=rfl
theorem zo4:zc1 []=some []:=rfl
theorem zkj:zdL (.int 2) (.int 19)=some (.int 524288):=rfl
theorem zwp:zdL (.int 2) (.int 20)=some (.int 1048576):=rfl
theorem zkk:zdL (.int 2) (.int 23)=some (.int 8388608):=rfl
theorem zx6 {v:Int}:zfT [.int v,.ty "int"]=some (.bool true):=rfl
theorem zx7 {v:Int}:zfT [.int v,.ty "bool"]=some (.bool false):=rfl
theorem zx8 {v:Int}:zfT [.int v,.ty "str"]=some (.bool false):=rfl
theorem zme {v:List Nat}:zfT [.str v,.ty "str"]=some (.bool true):=rfl
theorem zs3 {v:List D}:zfT [.tup v,.ty "tuple"]=some (.bool true):=rfl
theorem zs4 {x:List D} (h:x.length≤16777216):zbw [.tup x]=some (.int x.length):=if_pos h
noncomputable def kB2 (K:RX Fw→RE) (W:Fw→Mem→RX Fw):RX Fw→RE:=fun z=>K (z.bind W)
section
variable {K:RX Fw→RE} {W:Fw→Mem→RX Fw} {r:RE} {σ σ':Loc} {μ μ1:Mem} {F:EF} {T:TF} {G R S:CF} {B:V→Loc→Option Loc} {v:V} {d:D} {ds:List D} {t:Bool} {i k n:Nat} {x:Xn}
theorem zqG (h:kB2 K (zcQ R) (zc3 T G k σ μ)=r):K (zaj (zc3 T G k) R σ μ)=r:=h
theorem zkl (h:T σ μ = .ok t μ1) (h1:t=true→kB2 K (ziT T G k) (G σ μ1)=r) (h2:t=false→K (.ok (.next σ) μ1)=r):K (zc3 T G (k+1) σ μ)=r:=by
 rw [zur,h,bind_ok,zsL]
 cases t
 ·exact h2 rfl
 ·exact h1 rfl
theorem zx9 {y:List Nat} (h:F σ μ = .ok (.d (.str y)) μ1) (ha:y.all (fun c=>decide (c < 128))=true) (h2:kB2 K (zcQ R) (zcK B G (y.map fun z=>.str [z]) σ μ1)=r):K (zaj (zlM F B G) R σ μ)=r:=by
 rw [zbS,zwh,h,bind_ok,zuv,if_pos ha]
 have:=zlw B G (y.map fun z=>.str [z]) σ μ1
 rw [List.length_map] at this
 rw [this];exact h2
theorem zfh (h:F σ μ = .ok (.d (.int (n:Nat))) μ1) (ha:n≤1000000) (h2:kB2 K (zcQ R) (zcK B G ((List.range n).map fun j=>.int (j:Nat)) σ μ1)=r):K (zaj (zex F B G) R σ μ)=r:=by
 rw [zbS,zwi,h,bind_ok,zuw _ _ _ _ _ ha];exact h2
theorem zs5 (h:F σ μ = .ok (.d (.lst ds)) μ1) (h2:kB2 K (zcQ R) (zcK B G ds σ μ1)=r):K (zaj (zhc F B G) R σ μ)=r:=by
 rw [zbS,znl,h,bind_ok,zry];exact h2
theorem zdU (h:K (.ok (.next σ) μ)=r):K (zcK B G [] σ μ)=r:=h
theorem zez (h:kB2 K (zkh (zat i) G ds) (G (σ.set i (some (.d d))) μ)=r):K (zcK (zat i) G (d :: ds) σ μ)=r:=h
theorem zc8 (h:K (R σ μ)=r):kB2 K (zcQ R) (.ok (.next σ) μ)=r:=h
theorem zkm (h:K (zc3 T G k σ μ)=r):kB2 K (ziT T G k) (.ok (.next σ) μ)=r:=h
theorem zdp (h:K (zcK B G ds σ μ)=r):kB2 K (zkh B G ds) (.ok (.next σ) μ)=r:=h
theorem zvt (h:K (.exc x μ)=r):kB2 K W (.exc x μ)=r:=h
theorem zya (h:K (.ok (.ret v) μ)=r):kB2 K (zcQ R) (.ok (.ret v) μ)=r:=h
theorem zyb (h:K (.ok (.ret v) μ)=r):kB2 K (zkh B G ds) (.ok (.ret v) μ)=r:=h
end
section
variable {b μ μ1 μ2 L L':Mem} {σ:Loc} {F G:EF} {Fs:List EF} {vs:List V} {ds es:List D} {x y:D} {j k n:Nat} {o o':MO}
theorem zmf (h:L.length=j):(b ++ L).length=b.length+j:=by rw [List.length_append,h]
theorem zaN (h:L[j]? = some o):(b ++ L)[b.length+j]? = some o:=by
 rw [List.getElem?_append_right (by lia),Nat.add_sub_cancel_left];exact h
theorem zhe:(b ++ L).set (b.length+j) o=b ++ L.set j o:=by
 rw [List.set_append_right _ _ (by lia),Nat.add_sub_cancel_left]
theorem zf1 (h:b[k]? = some o):(b ++ L)[k]? = some o:=by
 have:=(List.getElem?_eq_some_iff.mp h).1
 rw [List.getElem?_append_left this];exact h
theorem zdV (h1:zbQ Fs σ μ = .ok vs (b ++ L)) (h2:zc1 vs=some ds) (hj:L.length=j):zdM Fs σ μ = .ok (.ref (b.length+j)) (b ++ (L ++ [.list ds])):=by
 rw [zx4 h1 h2 (zmf hj),List.append_assoc]
theorem zo5 (hj:L.length=j):zim σ (b ++ L) = .ok (.ref (b.length+j)) (b ++ (L ++ [.dcI []])):=by rw [zwm (zmf hj),List.append_assoc]
theorem zlx (hj:L.length=j):zgN σ (b ++ L) = .ok (.ref (b.length+j)) (b ++ (L ++ [.dcS []])):=by rw [zwn (zmf hj),List.append_assoc]
theorem zbU (h0:F σ μ = .ok (.ref (b.length+j)) μ1) (hi:μ1[b.length+j]? = some (.list es)) (h1:G σ μ1 = .ok (.d x) (b ++ L)) (hg:L[j]? = some (.list ds)) (hl:ds.length≤10000000):zbH F G σ μ = .ok (.d .none) (b ++ L.set j (.list (ds ++ [x]))):=by
 rw [zx3 h0 hi h1 (zaN hg) hl,zhe]
theorem zhf {sc:Scope} {G:CF} {vs:List V} {μ:Mem} {σ:Loc} {r:RE} (hst:zaK sc vs=σ) (h:zaQ μ.length (G σ (μ ++ []))=r):kFn sc G [] vs μ=r:=by
 rw [List.append_nil] at h;exact zbh hst h
theorem zf2 {μ L:Mem} {x y:D} (h:x=y):zaQ μ.length (.ok (.ret (.d x)) (μ ++ L)) = .ok (.d y) μ:=by
 subst h;rw [zhU,List.take_left'];rfl
theorem zrD {μ L:Mem} {x y:Xn} (h:x=y):zaQ μ.length (.exc x (μ ++ L)) = .exc y μ:=by subst h;rw [zjN,List.take_left'];rfl
theorem zgQ {μ L:Mem} {j:Nat} {ds es:List D} (h:L[j]? = some (.list ds)) (he:ds=es):zaQ μ.length (.ok (.ret (.ref (μ.length+j))) (μ ++ L)) = .ok (.d (.lst es)) μ:=by
 subst he;rw [zsZ _ (zaN h) (by lia),List.take_left'];rfl
end
theorem zix {σ:Loc} {μ μ1 μ2:Mem} {T:TF} {F G:EF} {t:Bool} {x y:List Nat} (h:T σ μ = .ok t μ1) (h1:t=true→F σ μ1 = .ok (.d (.str x)) μ2) (h2:t=false→G σ μ1 = .ok (.d (.str y)) μ2):zbE T F G σ μ = .ok (.d (.str (bif t then x else y))) μ2:=by
 unfold zbE;rw [h,bind_ok];cases t
 ·exact h2 rfl
 ·exact h1 rfl
theorem zjQ {σ:Loc} {μ μ1 μ2:Mem} {T:TF} {F G:EF} {t:Bool} {x y:Int} (h:T σ μ = .ok t μ1) (h1:t=true→F σ μ1 = .ok (.d (.int x)) μ2) (h2:t=false→G σ μ1 = .ok (.d (.int y)) μ2):zbE T F G σ μ = .ok (.d (.int (bif t then x else y))) μ2:=by
 unfold zbE;rw [h,bind_ok];cases t
 ·exact h2 rfl
 ·exact h1 rfl
theorem zrE {μ:Mem} {x y:Xn} (h:x=y):zaQ μ.length (.exc x μ) = .exc y μ:=by subst h;rw [zjN,List.take_length]
theorem le1 (a b:Nat):(!decide ([b] < [a]))=decide (a≤b):=by
 have:([b] < [a])=(b < a):=by
  apply propext
  constructor
  ·intro h
   rcases List.cons_lt_cons_iff.mp h with h | ⟨_,h⟩
   ·exact h
   ·exact absurd h (List.lt_irrefl _)
  ·intro h;exact List.cons_lt_cons_iff.mpr (.inl h)
 rw [← decide_not];congr 1;rw [this];exact propext Nat.not_lt
theorem eq1 (a b:Nat):decide ([a]=[b])=decide (a=b):=by congr 1;exact propext ⟨fun h=>(List.cons.inj h).1,fun h=>by rw [h]⟩
theorem zkn {a b:List Nat}:opC .LtE (.str a) (.str b)=some (.bool (!decide (b < a))):=rfl
theorem zyc {β:Type} {K:RX Fw→β} {r:β} {σ:Loc} {μ:Mem} {O F:EF} {R:CF} {k i:Nat} {fs:List D} {a b:Int} (hO:O σ μ = .ok (.ref k) μ) (hi:μ[k]? = some (.inst fs)) (ha:fs[i]? = some (.int a)) (hF:F σ μ = .ok (.d (.int b)) μ) (h2:K (R σ (μ.set k (.inst (fs.set i (.int (a+b))))))=r):K (zaj (zlP i O F) R σ μ)=r:=by
 rw [zbS,zwk,hO,bind_ok,zuy hi ha hF,bind_ok,zhi];exact h2
theorem ziy {β:Type} {K:RX Fw→β} {r:β} {σ:Loc} {μ μ1:Mem} {F:EF} {R:CF} {x:Xn} (h:F σ μ = .exc x μ1) (h2:K (.exc x μ1)=r):K (zaj (zaq F) R σ μ)=r:=by rw [zbS,zjL,h];exact h2
theorem zaR {μ:Mem} {k:Nat} {o:MO} (h:k < μ.length):(μ.set k o)[k]? = some o:=by rw [List.getElem?_set_self h]
theorem za0 {μ:Mem} {k:Nat} {ds:List D} (h:μ[k]? = some (.list ds)):res μ (.ref k)=some (.lst ds):=by unfold res;simp only [h];rfl
theorem zhk {μ:Mem} {k:Nat} {kvs:List (Int×D)} (h:μ[k]? = some (.dcI kvs)):res μ (.ref k)=some (.dcI kvs):=by unfold res;simp only [h];rfl
theorem zfE {μ:Mem} {k:Nat} {kvs:List (List Nat×D)} (h:μ[k]? = some (.dcS kvs)):res μ (.ref k)=some (.dcS kvs):=by unfold res;simp only [h];rfl
theorem zyd {x:List Nat} {kvs:List (List Nat×D)}:opC .In (.str x) (.dcS kvs)=some (.bool (decide (x∈kvs.map (·.1)))):=rfl
theorem zs6 {x:List Nat} {kvs:List (List Nat×D)}:opC .NotIn (.str x) (.dcS kvs)=some (.bool (!decide (x∈kvs.map (·.1)))):=rfl
theorem zmg {x:Int} {kvs:List (Int×D)}:opC .In (.int x) (.dcI kvs)=some (.bool (decide (x∈kvs.map (·.1)))):=rfl
theorem zbJ {α:Type} {s t:List α} {a b:Nat} (h1:s.length≤a) (h2:t.length≤b):(s ++ t).length≤a+b:=by rw [List.length_append];lia
theorem zbg {a b:List Nat} {c d:Nat} (h1:a.length≤c) (h2:b.length≤d) (h:c+d≤16777216):zaH (.str a) (.str b)=some (.str (a ++ b)):=if_pos (by lia)
theorem zgv {a b:List D} {c d:Nat} (h1:a.length≤c) (h2:b.length≤d) (h:c+d≤16777216):zaH (.lst a) (.lst b)=some (.lst (a ++ b)):=if_pos (by lia)
theorem zwq {x:List Nat} {ds:List D} {ys:List (List Nat)} (h:zbl ds=some ys) (hl:(ys.map (·.length)).sum+ys.length * x.length≤16777216):zc2 [.str x,.lst ds]=some (.str (zaV x ys)):=by
 show (zbl ds).bind _=_;rw [h];exact if_pos hl
theorem ze2 {σ:Loc} {μ μ1:Mem} {F:EF} {s:List Nat} {c:Nat} (h:F σ μ = .ok (.d (.str s)) μ1) (h1:s.length≤c) (h2:c≤16777216):zde F σ μ = .ok (.d (.str s)) μ1:=zx1 h (Nat.le_trans h1 h2)
theorem zbm {σ:Loc} {μ μ1:Mem} {F:EF} {Fs:List EF} {s y:List Nat} {a c:Nat} {r:RE} (h:F σ μ = .ok (.d (.str y)) μ1) (h1:s.length≤a) (h2:y.length≤c) (h3:a+c≤16777216) (h4:(s ++ y).length≤a+c→zcc Fs (s ++ y) σ μ1=r):zcc (F :: Fs) s σ μ=r:=
 zx2 h (by lia) (h4 (zbJ h1 h2))
theorem zf3 {K:RX Fw→RE} {r1 r2:RE} {σ:Loc} {μ μ1:Mem} {T:TF} {A B R:CF} {t:Bool} (h:T σ μ = .ok t μ1) (h1:t=true→K (zaj A R σ μ1)=r1) (h2:t=false→K (zaj B R σ μ1)=r2):K (zaj (kIf T A B) R σ μ)=bif t then r1 else r2:=by
 refine zaD h (fun e=>?_) (fun e=>?_) <;> rw [e]
 ·exact h1 e
 ·exact h2 e
theorem zo6 {β:Type} {K:RX Fw→β} {r:β} {σ:Loc} {μ:Mem} {O F:EF} {R:CF} {k i:Nat} {fs fs':List D} {d:D} (hF:F σ μ = .ok (.d d) μ) (hO:O σ μ = .ok (.ref k) μ) (hi:μ[k]? = some (.inst fs)) (hs:zej i d fs=some fs') (h2:K (R σ (μ.set k (.inst fs')))=r):K (zaj (ziN i F O) R σ μ)=r:=by
 rw [zbS,zwl,hF,bind_ok,zuz,hO,bind_ok,zsW hi hs,bind_ok,zhi];exact h2
theorem zye {Φ:List V→Mem→RE} {Fs:List EF} {σ:Loc} {μ b L:Mem} {vs:List V} {j k:Nat} {o:MO} (h1:zbQ Fs σ μ = .ok vs (b ++ L)) (hk:vs.length+1=k) (hj:L.length=j) (h:Φ (.ref (b.length+j) :: vs) (b ++ (L ++ [.inst []])) = .ok (.d .none) (b ++ (L ++ [o]))):zmG Φ k Fs σ μ = .ok (.ref (b.length+j)) (b ++ (L ++ [o])):=by
 unfold zmG
 rw [h1,bind_ok,if_pos hk,zmf hj,List.append_assoc,h]
section
variable {K:RX Fw→RE} {r:RE} {σ σ':Loc} {μ μ1:Mem} {F:EF} {G R:CF} {B:V→Loc→Option Loc} {v:V} {d:D} {ds:List D} {i k n fuel:Nat} {its:Mem→Option (List D)}
noncomputable def zvu (its:Mem→Option (List D)) (B:V→Loc→Option Loc) (G:CF) (fuel i:Nat):Fw→Mem→RX Fw:=fun f μ'=>match f with
 | .next σ''=>zc6 its B G fuel (i+1) σ'' μ'
 | .ret v=>.ok (.ret v) μ'
theorem zs7 (h:F σ μ = .ok (.ref k) μ1) (hm:μ1[k]? = some (.list ds)) (h2:kB2 K (zcQ R) (zc6 (zcP (.ref k)) B G (ds.length+1) 0 σ μ1)=r):K (zaj (zhc F B G) R σ μ)=r:=by
 have hv:zcP (.ref k) μ1=some ds:=by unfold zcP;rw [za0 hm]
 rw [zbS,znl,h,bind_ok];unfold zo0;rw [hv];exact h2
theorem zs8 (hm:μ[k]? = some (.list ds)) (hd:ds[i]? = some d) (hB:B (.d d) σ=some σ') (h:kB2 K (zvu (zcP (.ref k)) B G fuel i) (G σ' μ)=r):K (zc6 (zcP (.ref k)) B G (fuel+1) i σ μ)=r:=by
 have hv:zcP (.ref k) μ=some ds:=by unfold zcP;rw [za0 hm]
 rw [zc6];dsimp only;rw [hv];dsimp only;rw [hd];dsimp only;rw [hB];exact h
theorem zqH (hm:μ[k]? = some (.list ds)) (hd:ds[i]? = none) (h:K (.ok (.next σ) μ)=r):K (zc6 (zcP (.ref k)) B G (fuel+1) i σ μ)=r:=by
 have hv:zcP (.ref k) μ=some ds:=by unfold zcP;rw [za0 hm]
 rw [zc6];dsimp only;rw [hv];dsimp only;rw [hd];exact h
theorem zo7 (h:K (zc6 its B G fuel (i+1) σ μ)=r):kB2 K (zvu its B G fuel i) (.ok (.next σ) μ)=r:=h
noncomputable def zuB (n:Nat) (W:Fw→Mem→RX Fw):Fw→Mem→RX Fw:=fun f μ'=>match f with
 | .next σ'=>W (.next (σ'.map (zjt n))) (μ'.take n)
 | .ret v=>W (.ret v) μ'
theorem zzk {W:Fw→Mem→RX Fw} (h:kB2 K (zuB μ.length W) (G σ μ)=r):kB2 K W (ziO G σ μ)=r:=by
 have e:(ziO G σ μ).bind W=(G σ μ).bind (zuB μ.length W):=by
  unfold ziO
  cases G σ μ with
  | ok f μ'=>cases f <;> rfl
  | exc=>rfl
  | stuck=>rfl
 show K ((ziO G σ μ).bind W)=r
 rw [e];exact h
theorem zzl {W:Fw→Mem→RX Fw} (h:kB2 K W (.ok (.next (σ.map (zjt n))) (μ.take n))=r):kB2 K (zuB n W) (.ok (.next σ) μ)=r:=h
end
theorem zo8 {α β:Type} (f:α→β) (b:Bool) (x y:α):f (bif b then x else y)=bif b then f x else f y:=by cases b <;> rfl
theorem zfy {xs ds:List D} {a b:List (List Nat)} (h:zbl xs=some a) (h2:zbl ds=some b):zbl (xs ++ ds)=some (a ++ b):=by
 induction xs generalizing a with
 | nil=>cases h;exact h2
 | cons x xs ih=>
  cases x with
  | str x=>
   rw [zbl] at h
   obtain ⟨a',ha,rfl⟩:=Option.map_eq_some_iff.mp h
   exact zal (ih ha)
  | _=>exact absurd h (by simp [zbl])
theorem sum_nil:(([]:List (List Nat)).map (·.length)).sum≤0:=Nat.le_refl _
theorem sum_cons {y:List Nat} {ys:List (List Nat)} {c b:Nat} (h:y.length≤c) (h2:(ys.map (·.length)).sum≤b):((y :: ys).map (·.length)).sum≤c+b:=by rw [List.map_cons,List.sum_cons];lia
theorem zgw {xs ys:List (List Nat)} {c b:Nat} (h:(xs.map (·.length)).sum≤c) (h2:(ys.map (·.length)).sum≤b):((xs ++ ys).map (·.length)).sum≤c+b:=by rw [List.map_append,List.sum_append];lia
theorem zcX {x:List Nat} {ds:List D} {ys:List (List Nat)} {b n:Nat} (h:zbl ds=some ys) (h1:(ys.map (·.length)).sum≤b) (h2:ys.length≤n) (h3:b+n * x.length≤16777216):zc2 [.str x,.lst ds]=some (.str (zaV x ys)):=
 zwq h (by have:=Nat.mul_le_mul_right x.length h2;lia)
theorem zmX {K:RX Fw→RE} {r:RE} {σ:Loc} {b L:Mem} {F:EF} {R:CF} {i j:Nat} {ds es:List D} (hv:σ[i]? = some (some (.ref (b.length+j)))) (hF:F σ (b ++ L) = .ok (.d (.lst es)) (b ++ L)) (hg:L[j]? = some (.list ds)) (hl:ds.length+es.length≤10000000) (h2:K (R (σ.set i (some (.ref (b.length+j)))) (b ++ L.set j (.list (ds ++ es))))=r):K (zaj (zlN i F) R σ (b ++ L))=r:=by
 rw [zbS]
 show K (RX.bind (((σ[i]?).join.bind V.gR).elim _ _) _)=_
 rw [hv]
 show K (RX.bind ((F σ (b ++ L)).bind _) _)=_
 rw [hF]
 show K (RX.bind ((atL (b ++ L) (b.length+j)).elim _ _) _)=_
 rw [znX (zaN hg)]
 show K (RX.bind (if _ then _ else _) _)=_
 rw [if_pos hl,zhe];exact h2
theorem zo9 {α:Type} {s t:List α} {a b:Nat} {u:Bool} (h1:s.length≤a) (h2:t.length≤b):(bif u then s else t).length≤a+b:=by cases u;exact Nat.le_trans h2 (Nat.le_add_left _ _);exact Nat.le_trans h1 (Nat.le_add_right _ _)
noncomputable def zbO (v lo hi:Int):Bool:=decide (lo≤v) && decide (v≤hi)
noncomputable abbrev zeA (v:Int):Bool:=zbO v 0 15
noncomputable def zcD:List (List Nat):=[[77,73],[69,81],[67,83],[86,83],[76,83],[76,84],[76,69],[65,76],[80,76],[78,69],[67,67],[86,67],[72,73],[71,69],[71,84],[78,86]]
noncomputable def OPS:List (List Nat):=[[77,79,86],[76,83,76],[65,83,82],[82,79,82],[65,78,68],[65,78,78],[73,79,82],[88,79,82],[65,68,68],[83,85,66],[77,85,76],[68,73,86]]
noncomputable def zeN:List (List Nat):=[[76,68,82],[76,68,66],[83,84,82],[83,84,66]]
noncomputable abbrev zhy:List Nat:=[77,79,86]
noncomputable abbrev zf4:List Nat:=[77,79,86,73]
noncomputable abbrev zcb:List Nat:=[77,79,86,72]
noncomputable abbrev zbN:List Nat:=[71,69,84,72]
noncomputable abbrev zcg:List Nat:=[84,82,65,80]
noncomputable abbrev sB:List Nat:=[66]
noncomputable abbrev sBL:List Nat:=[66,76]
noncomputable abbrev sBR:List Nat:=[66,82]
noncomputable abbrev zdi:List Nat:=[66,76,82]
noncomputable def zeB (n:List Nat):List Nat:=bif zrb n [73] && decide (slc n none (some (-1))∈OPS) then slc n none (some (-1)) else []
theorem zc9 (v lo hi:Int) (μ:Mem):zcf [.d (.int v),.d (.int lo),.d (.int hi)] μ = .ok (.d (.bool (zbO v lo hi))) μ:=by
 refine zbh (zp2 _ _ _) ?_
 unfold zlW
 refine zaM (S:=zaq _) ?_
 refine zay (r_B (zff (zaF (zaf (zad rfl) (zaf zab zag)) (zan zaa (zan zaa zaA)) zx6) (fun x_=>zff (r_B (zdo (zak (zaF (zaf (zad rfl) (zaf zab zag)) (zan zaa (zan zaa zaA)) zx7)))) (fun x_=>zff (zah (zad rfl) (zad rfl) zaa zaa zvq) (fun x_=>zgu (zah (zad rfl) (zad rfl) zaa zaa zvq)))))) ?_
 refine zdh ?_
 rotate_left
 rfl
theorem zdt (v:Int) (μ:Mem):zcj [.d (.int v)] μ = .ok (.d (.bool (zeA v))) μ:=by
 refine zbh (zmH _) ?_
 unfold zja
 refine zaM (S:=zaq _) ?_
 refine zay (zas (zaf (zad rfl) (zaf zab (zaf zab zag))) rfl (zc9 _ _ _ _)) ?_
 refine zdh ?_
 rotate_left
 rfl
theorem zhz (μ:Mem):zen [] μ = .ok (.d (.lst (zcD.map .str))) μ:=by
 refine zbh (znF) ?_
 unfold zjw
 refine zaM (S:=zaq _) ?_
 refine zay (zbA (zaf zab (zaf zab (zaf zab (zaf zab (zaf zab (zaf zab (zaf zab (zaf zab (zaf zab (zaf zab (zaf zab (zaf zab (zaf zab (zaf zab (zaf zab (zaf zab zag)))))))))))))))) rfl) ?_
 refine zcv ?_
 rotate_left
 rfl
theorem zcd (μ:Mem):zb1 [] μ = .ok (.d (.lst (OPS.map .str))) μ:=by
 refine zbh (znG) ?_
 unfold zjx
 refine zaM (S:=zaq _) ?_
 refine zay (zbA (zaf zab (zaf zab (zaf zab (zaf zab (zaf zab (zaf zab (zaf zab (zaf zab (zaf zab (zaf zab (zaf zab (zaf zab zag)))))))))))) rfl) ?_
 refine zcv ?_
 rotate_left
 rfl
theorem zch (μ:Mem):zcr [] μ = .ok (.d (.lst (zeN.map .str))) μ:=by
 refine zbh (zlV) ?_
 unfold zir
 refine zaM (S:=zaq _) ?_
 refine zay (zbA (zaf zab (zaf zab (zaf zab (zaf zab zag)))) rfl) ?_
 refine zcv ?_
 rotate_left
 rfl
theorem zbV (n:List Nat) (hn:n.length≤1000000) (μ:Mem):zbz [.d (.str n)] μ = .ok (.d (.str (zeB n))) μ:=by
 refine zbh (zh5 _) ?_
 unfold zfD
 refine zaD (ze1 (zak (zco (zad rfl) rfl (zaf zab zag) (zan zaa (zan zaa zaA)) zx5)) (fun x_=>zc4 (zak (zah (zcz (zad rfl) zcy (zcL (zdz zab)) zaa (zem (by lia))) (zas zag rfl (zcd _)) zaa zaa (zc7 zaX))))) ?_ ?_
 intro _
 refine zay (zcz (zad rfl) zcy (zcL (zdz zab)) zaa (zem (by lia))) ?_
 refine zbd ?_
 rotate_left
 intro _
 refine zav ?_
 refine zaM (S:=zaq _) ?_
 refine zay zab ?_
 refine zbd ?_
 rotate_left
 all_goals simp only [zeB, *,cond_true,cond_false]
noncomputable def zko (n:List Nat) (a b c:Int):List Nat:=
 bif !zeA a || !zeA b then [98,97,100,32,114,101,103,105,115,116,101,114]
 else bif decide (n∈[zhy,zf4,zcb,zbN]) && !decide (b=0) then [98,97,100,32,114,101,103,105,115,116,101,114]
 else bif decide (n=zbN) then (bif zbO c 0 0 then [] else [98,97,100,32,111,112,101,114,97,110,100])
 else bif decide (n=zcb) then (bif zbO c 0 65535 then [] else [98,97,100,32,105,109,109,101,100,105,97,116,101])
 else bif decide (n∈OPS) then (bif zeA c then [] else [98,97,100,32,114,101,103,105,115,116,101,114])
 else (bif zbO c (-65536) 65535 then [] else [98,97,100,32,105,109,109,101,100,105,97,116,101])
theorem zkH (n:List Nat) (a b c:Int) (μ:Mem):zeS [.d (.tup [.str n,.int a,.int b,.int c])] μ = .ok (.d (.str (zko n a b c))) μ:=by
 refine zbh (zjy _) ?_
 unfold zg9
 refine zb7 (zad rfl) rfl ?_
 refine zaD (zbR (zdo (zak (zas (zaf (zad rfl) zag) rfl (zdt _ _)))) (fun x_=>zbI (zdo (zak (zas (zaf (zad rfl) zag) rfl (zdt _ _)))))) ?_ ?_
 intro _
 refine zay zab ?_
 refine zbd ?_
 rotate_left
 intro _
 refine zav ?_
 refine zaD (ze1 (zak (zah (zad rfl) (za2 (zaf zab (zaf zab (zaf zab (zaf zab zag)))) rfl) zaa zaa (zbX (zal (zal (zal (zal zaO))))))) (fun x_=>zc4 (zak (zah (zad rfl) zab zaa zaa zhV)))) ?_ ?_
 intro _
 refine zay zab ?_
 refine zbd ?_
 rotate_left
 intro _
 refine zav ?_
 refine zaD (zak (zah (zad rfl) zab zaa zaa zaT)) ?_ ?_
 intro _
 refine zeo ?_
 refine zaD (zak (zas (zaf (zad rfl) (zaf zab (zaf zab zag))) rfl (zc9 _ _ _ _))) ?_ ?_
 intro _
 refine zay zab ?_
 refine zbd ?_
 rotate_left
 intro _
 refine zay zab ?_
 refine zbd ?_
 rotate_left
 intro _
 refine zav ?_
 refine zaD (zak (zah (zad rfl) zab zaa zaa zaT)) ?_ ?_
 intro _
 refine zeo ?_
 refine zaD (zak (zas (zaf (zad rfl) (zaf zab (zaf zab zag))) rfl (zc9 _ _ _ _))) ?_ ?_
 intro _
 refine zay zab ?_
 refine zbd ?_
 rotate_left
 intro _
 refine zay zab ?_
 refine zbd ?_
 rotate_left
 intro _
 refine zav ?_
 refine zaD (zak (zah (zad rfl) (zas zag rfl (zcd _)) zaa zaa (zc7 zaX))) ?_ ?_
 intro _
 refine zeo ?_
 refine zaD (zak (zas (zaf (zad rfl) zag) rfl (zdt _ _))) ?_ ?_
 intro _
 refine zay zab ?_
 refine zbd ?_
 rotate_left
 intro _
 refine zay zab ?_
 refine zbd ?_
 rotate_left
 intro _
 refine zav ?_
 refine zaM (S:=zaq _) ?_
 refine zeo ?_
 refine zaD (zak (zas (zaf (zad rfl) (zaf (zdz zab) (zaf zab zag))) rfl (zc9 _ _ _ _))) ?_ ?_
 intro _
 refine zay zab ?_
 refine zbd ?_
 rotate_left
 intro _
 refine zay zab ?_
 refine zbd ?_
 rotate_left
 all_goals simp only [zko, *,cond_true,cond_false]
noncomputable def ziU (a b c:Int):List Nat:=
 bif !zeA a || !zeA b then [98,97,100,32,114,101,103,105,115,116,101,114] else bif zbO c (-524288) 524287 then [] else [98,97,100,32,111,102,102,115,101,116]
theorem zmY (n:List Nat) (a b c:Int) (μ:Mem):zgf [.d (.tup [.str n,.int a,.int b,.int c])] μ = .ok (.d (.str (ziU a b c))) μ:=by
 refine zbh (zlX _) ?_
 unfold zis
 refine zaD (zbR (zdo (zak (zas (zaf (zah (zad rfl) zab zaa zaa (za4 (by decide) rfl)) zag) rfl (zdt _ _)))) (fun x_=>zbI (zdo (zak (zas (zaf (zah (zad rfl) zab zaa zaa (za4 (by decide) rfl)) zag) rfl (zdt _ _)))))) ?_ ?_
 intro _
 refine zay zab ?_
 refine zbd ?_
 rotate_left
 intro _
 refine zav ?_
 refine zaM (S:=zaq _) ?_
 refine zeo ?_
 refine zaD (zak (zas (zaf (zah (zad rfl) zab zaa zaa (za4 (by decide) rfl)) (zaf (zdz zab) (zaf zab zag))) rfl (zc9 _ _ _ _))) ?_ ?_
 intro _
 refine zay zab ?_
 refine zbd ?_
 rotate_left
 intro _
 refine zay zab ?_
 refine zbd ?_
 rotate_left
 all_goals simp only [ziU, *,cond_true,cond_false]
noncomputable def zcR (n cond:List Nat) (c last:Int):List Nat:=
 bif !decide (cond∈zcD) then [98,97,100,32,99,111,110,100,105,116,105,111,110]
 else bif decide (n=zcg) then (bif !zbO c 0 15 then [98,97,100,32,116,114,97,112] else bif zbO last 0 65535 then [] else [98,97,100,32,112,108,97,99,101])
 else bif !zbO last 0 0 then [98,97,100,32,111,112,101,114,97,110,100]
 else bif decide (n=sB) || decide (n=sBL) then (bif zbO c (-8388608) 8388607 then [] else [98,97,100,32,111,102,102,115,101,116])
 else bif !zeA c || (decide (n=zdi) && decide (c=12)) then [98,97,100,32,114,101,103,105,115,116,101,114] else []
theorem zmZ (n cond:List Nat) (c last:Int) (μ:Mem):zgg [.d (.tup [.str n,.str cond,.int c,.int last])] μ = .ok (.d (.str (zcR n cond c last))) μ:=by
 refine zbh (zlZ _) ?_
 unfold zit
 refine zb7 (zad rfl) rfl ?_
 refine zaD (zak (zah (zad rfl) (zas zag rfl (zhz _)) zaa zaa (zvr zaX))) ?_ ?_
 intro _
 refine zay zab ?_
 refine zbd ?_
 rotate_left
 intro _
 refine zav ?_
 refine zaD (zak (zah (zad rfl) zab zaa zaa zaT)) ?_ ?_
 intro _
 refine zbb ?_
 refine zaD (zdo (zak (zas (zaf (zad rfl) (zaf zab (zaf zab zag))) rfl (zc9 _ _ _ _)))) ?_ ?_
 intro _
 refine zay zab ?_
 refine zbd ?_
 rotate_left
 intro _
 refine zav ?_
 refine zeo ?_
 refine zaD (zak (zas (zaf (zad rfl) (zaf zab (zaf zab zag))) rfl (zc9 _ _ _ _))) ?_ ?_
 intro _
 refine zay zab ?_
 refine zbd ?_
 rotate_left
 intro _
 refine zay zab ?_
 refine zbd ?_
 rotate_left
 intro _
 refine zav ?_
 refine zaD (zdo (zak (zas (zaf (zad rfl) (zaf zab (zaf zab zag))) rfl (zc9 _ _ _ _)))) ?_ ?_
 intro _
 refine zay zab ?_
 refine zbd ?_
 rotate_left
 intro _
 refine zav ?_
 refine zaD (zbR (zak (zah (zad rfl) zab zaa zaa zaT)) (fun x_=>zbI (zak (zah (zad rfl) zab zaa zaa zaT)))) ?_ ?_
 intro _
 refine zeo ?_
 refine zaD (zak (zas (zaf (zad rfl) (zaf (zdz zab) (zaf zab zag))) rfl (zc9 _ _ _ _))) ?_ ?_
 intro _
 refine zay zab ?_
 refine zbd ?_
 rotate_left
 intro _
 refine zay zab ?_
 refine zbd ?_
 rotate_left
 intro _
 refine zav ?_
 refine zaD (zbR (zdo (zak (zas (zaf (zad rfl) zag) rfl (zdt _ _)))) (fun x_=>zbI (ze1 (zak (zah (zad rfl) zab zaa zaa zaT)) (fun x_=>zc4 (zak (zah (zad rfl) zab zaa zaa zdN)))))) ?_ ?_
 intro _
 refine zay zab ?_
 refine zbd ?_
 rotate_left
 intro _
 refine zav ?_
 refine zaM (S:=zaq _) ?_
 refine zay zab ?_
 refine zbd ?_
 rotate_left
 all_goals simp only [zcR, *,cond_true,cond_false]
noncomputable abbrev BRS:List (List Nat):=[sB,sBL,sBR,zdi,zcg]
noncomputable abbrev zrF (n:List Nat):Bool:=decide (n∈[zcb,zbN]) || (decide (n∈OPS) || !decide (zeB n=[]))
noncomputable def zda (n:List Nat) (a b c:Int):List Nat:=
 bif zrF n then zko n a b c else bif decide (n∈zeN) then ziU a b c else [117,110,107,110,111,119,110,32,110,97,109,101]
theorem zjR (n:List Nat) (a b c:Int) (hn:n.length≤1000000) (hb:decide (n∈BRS)=false) (μ:Mem):zdl [.d (.tup [.str n,.int a,.int b,.int c])] μ = .ok (.d (.str (zda n a b c))) μ:=by
 refine zbh (zjA _) ?_
 unfold zh6
 refine zaD (zbR (zdo (zak (zaF (zaf (zad rfl) (zaf zab zag)) (zan zaa (zan zaa zaA)) zs3))) (fun x_=>zbR (zak (zah (zaF (zaf (zad rfl) zag) (zan zaa zaA) (zs4 (of_decide_eq_true rfl))) zab zaa zaa zhV)) (fun x_=>zbI (zdo (zak (zaF (zaf (zah (zad rfl) zab zaa zaa (za4 (by decide) rfl)) (zaf zab zag)) (zan zaa (zan zaa zaA)) zme)))))) ?_ ?_
 intro h_
 exact Bool.noConfusion (show false=true from h_)
 intro _
 refine zav ?_
 refine zau (zah (zad rfl) zab zaa zaa (za4 (by decide) rfl)) ?_
 refine zaD (zbR (zak (zah (zad rfl) (za2 (zaf zab (zaf zab zag)) rfl) zaa zaa (zbX (zal (zal zaO))))) (fun x_=>zbR (zak (zah (zad rfl) (zas zag rfl (zcd _)) zaa zaa (zc7 zaX))) (fun x_=>zbI (zak (zah (zas (zaf (zad rfl) zag) rfl (zbV _ (by with_reducible assumption) _)) zab zaa zaa zcm))))) ?_ ?_
 intro _
 refine zay (zas (zaf (zad rfl) zag) rfl (zkH _ _ _ _ _)) ?_
 refine zbd ?_
 rotate_left
 intro _
 refine zav ?_
 refine zaD (zak (zah (zad rfl) (zas zag rfl (zch _)) zaa zaa (zc7 zaX))) ?_ ?_
 intro _
 refine zay (zas (zaf (zad rfl) zag) rfl (zmY _ _ _ _ _)) ?_
 refine zbd ?_
 rotate_left
 intro _
 refine zav ?_
 refine zaD (zak (zah (zad rfl) (za2 (zaf zab (zaf zab (zaf zab (zaf zab (zaf zab zag))))) rfl) zaa zaa (zbX (zal (zal (zal (zal (zal zaO)))))))) ?_ ?_
 intro h_
 exact Bool.noConfusion (Eq.trans (Eq.symm h_) (by with_reducible assumption):true=false)
 intro _
 refine zav ?_
 refine zaM (S:=zaq _) ?_
 refine zay zab ?_
 refine zbd ?_
 rotate_left
 all_goals simp only [zda, *,cond_true,cond_false]
theorem zkp {n:List Nat} (hb:n∈BRS):n.length≤1000000∧zrF n=false∧decide (n∈zeN)=false:=by
 revert n;decide
theorem zf5 (n cond:List Nat) (c last:Int) (hb:n∈BRS) (μ:Mem):zdl [.d (.tup [.str n,.str cond,.int c,.int last])] μ = .ok (.d (.str (zcR n cond c last))) μ:=by
 refine zbh (zjA _) ?_
 obtain ⟨hn,h1,h2⟩:=zkp hb
 have h3:decide (n∈BRS)=true:=decide_eq_true hb
 unfold zh6
 refine zaD (zbR (zdo (zak (zaF (zaf (zad rfl) (zaf zab zag)) (zan zaa (zan zaa zaA)) zs3))) (fun x_=>zbR (zak (zah (zaF (zaf (zad rfl) zag) (zan zaa zaA) (zs4 (of_decide_eq_true rfl))) zab zaa zaa zhV)) (fun x_=>zbI (zdo (zak (zaF (zaf (zah (zad rfl) zab zaa zaa (za4 (by decide) rfl)) (zaf zab zag)) (zan zaa (zan zaa zaA)) zme)))))) ?_ ?_
 intro h_
 exact Bool.noConfusion (show false=true from h_)
 intro _
 refine zav ?_
 refine zau (zah (zad rfl) zab zaa zaa (za4 (by decide) rfl)) ?_
 refine zaD (zbR (zak (zah (zad rfl) (za2 (zaf zab (zaf zab zag)) rfl) zaa zaa (zbX (zal (zal zaO))))) (fun x_=>zbR (zak (zah (zad rfl) (zas zag rfl (zcd _)) zaa zaa (zc7 zaX))) (fun x_=>zbI (zak (zah (zas (zaf (zad rfl) zag) rfl (zbV _ (by with_reducible assumption) _)) zab zaa zaa zcm))))) ?_ ?_
 intro h_
 exact Bool.noConfusion (Eq.trans (Eq.symm h_) (by with_reducible assumption):true=false)
 intro _
 refine zav ?_
 refine zaD (zak (zah (zad rfl) (zas zag rfl (zch _)) zaa zaa (zc7 zaX))) ?_ ?_
 intro h_
 exact Bool.noConfusion (Eq.trans (Eq.symm h_) (by with_reducible assumption):true=false)
 intro _
 refine zav ?_
 refine zaD (zak (zah (zad rfl) (za2 (zaf zab (zaf zab (zaf zab (zaf zab (zaf zab zag))))) rfl) zaa zaa (zbX (zal (zal (zal (zal (zal zaO)))))))) ?_ ?_
 intro _
 refine zay (zas (zaf (zad rfl) zag) rfl (zmZ _ _ _ _ _)) ?_
 refine zbd ?_
 rotate_left
 intro h_
 exact Bool.noConfusion (Eq.trans (Eq.symm h_) (by with_reducible assumption):false=true)
 rfl
noncomputable abbrev ziz (a b:Int):Int:=a * 16777216+b * 1048576
noncomputable def zpa (n:List Nat) (a b c:Int):Int:=
 bif decide (n=zbN) then 536870912+ziz a b
 else bif decide (n=zcb) then 1610612736+ziz a b+c
 else bif decide (n∈OPS) then ziz a b+(OPS.idxOf n:Nat) * 65536+c
 else bif decide (c < 0) then 1342177280+(ziz a b+(OPS.idxOf (slc n none (some (-1))):Nat) * 65536)+c+65536
 else 1073741824+(ziz a b+(OPS.idxOf (slc n none (some (-1))):Nat) * 65536)+c
theorem zly (n:List Nat) (a b c:Int) (hn:n.length≤1000000) (hi:decide (n=zbN)=false→decide (n=zcb)=false→decide (n∈OPS)=false→slc n none (some (-1))∈OPS) (μ:Mem):zfa [.d (.tup [.str n,.int a,.int b,.int c])] μ = .ok (.d (.int (zpa n a b c))) μ:=by
 refine zbh (zkF _) ?_
 unfold zhs
 refine zb7 (zad rfl) rfl ?_
 refine zau (zah (zah (zad rfl) zab zaa zaa (zfs (by decide))) (zah (zad rfl) zab zaa zaa (zfs (by decide))) zaa zaa zaZ) ?_
 refine zaD (zak (zah (zad rfl) zab zaa zaa zaT)) ?_ ?_
 intro _
 refine zay (zah zab (zad rfl) zaa zaa zaZ) ?_
 refine zcw ?_
 rotate_left
 intro _
 refine zav ?_
 refine zaD (zak (zah (zad rfl) zab zaa zaa zaT)) ?_ ?_
 intro _
 refine zay (zah (zah zab (zad rfl) zaa zaa zaZ) (zad rfl) zaa zaa zaZ) ?_
 refine zcw ?_
 rotate_left
 intro _
 refine zav ?_
 refine zaD (zak (zah (zad rfl) (zas zag rfl (zcd _)) zaa zaa (zc7 zaX))) ?_ ?_
 intro _
 refine zay (zah (zah (zad rfl) (zah (zco (zas zag rfl (zcd _)) rfl (zaf (zad rfl) zag) (zan zaa (zan zaa zaA)) (zn6 zaX (by decide) (of_decide_eq_true (by with_reducible assumption)))) zab zaa zaa (zfs (by decide))) zaa zaa zaZ) (zad rfl) zaa zaa zaZ) ?_
 refine zcw ?_
 rotate_left
 intro _
 refine zav ?_
 refine zki rfl (zah (zco (zas zag rfl (zcd _)) rfl (zaf (zcz (zad rfl) zcy (zcL (zdz zab)) zaa (zem (by lia))) zag) (zan zaa (zan zaa zaA)) (zn6 zaX (by decide) (by intros;with_reducible solve_by_elim only [*]))) zab zaa zaa (zfs (by decide))) ?_
 refine zaD (zak (zah (zad rfl) zab zaa zaa zft)) ?_ ?_
 intro _
 refine zay (zah (zah (zah zab (zad rfl) zaa zaa zaZ) (zad rfl) zaa zaa zaZ) zab zaa zaa zaZ) ?_
 refine zcw ?_
 rotate_left
 intro _
 refine zav ?_
 refine zaM (S:=zaq _) ?_
 refine zay (zah (zah zab (zad rfl) zaa zaa zaZ) (zad rfl) zaa zaa zaZ) ?_
 refine zcw ?_
 rotate_left
 all_goals simp only [zpa, *,cond_true,cond_false]
noncomputable def zmh (n cond:List Nat) (c last:Int):Int:=
 let w:Int:=3221225472+(zcD.idxOf cond:Nat) * 16777216
 bif decide (n=zcg) then w+268435456+last * 256+c * 16+12
 else
  let w:Int:=bif decide (n=sBL) || decide (n=zdi) then w+268435456 else w
  bif decide (n=sB) || decide (n=sBL) then w+536870912+c % 16777216 else w+c
theorem znS (n cond:List Nat) (c last:Int) (hc:cond∈zcD) (μ:Mem):zgD [.d (.tup [.str n,.str cond,.int c,.int last])] μ = .ok (.d (.int (zmh n cond c last))) μ:=by
 refine zbh (zmI _) ?_
 unfold zjb
 refine zb7 (zad rfl) rfl ?_
 refine zau (zah zab (zah (zco (zas zag rfl (zhz _)) rfl (zaf (zad rfl) zag) (zan zaa (zan zaa zaA)) (zn6 zaX (by decide) (by with_reducible assumption))) zab zaa zaa (zfs (by decide))) zaa zaa zaZ) ?_
 refine zaD (zak (zah (zad rfl) zab zaa zaa zaT)) ?_ ?_
 intro _
 refine zay (zah (zah (zah (zah (zad rfl) zab zaa zaa zaZ) (zah (zad rfl) zab zaa zaa (zfs (by decide))) zaa zaa zaZ) (zah (zad rfl) zab zaa zaa (zfs (by decide))) zaa zaa zaZ) zab zaa zaa zaZ) ?_
 refine zcw ?_
 rotate_left
 intro _
 refine zav ?_
 refine zaD (zbR (zak (zah (zad rfl) zab zaa zaa zaT)) (fun x_=>zbI (zak (zah (zad rfl) zab zaa zaa zaT)))) ?_ ?_
 intro _
 refine zki rfl zab ?_
 refine zaD (zbR (zak (zah (zad rfl) zab zaa zaa zaT)) (fun x_=>zbI (zak (zah (zad rfl) zab zaa zaa zaT)))) ?_ ?_
 intro _
 refine zay (zah (zah (zad rfl) zab zaa zaa zaZ) (zah (zad rfl) zab zaa zaa (zb2 (by decide))) zaa zaa zaZ) ?_
 refine zcw ?_
 rotate_left
 intro _
 refine zav ?_
 refine zaM (S:=zaq _) ?_
 refine zay (zah (zad rfl) (zad rfl) zaa zaa zaZ) ?_
 refine zcw ?_
 rotate_left
 intro _
 refine zav ?_
 refine zaD (zbR (zak (zah (zad rfl) zab zaa zaa zaT)) (fun x_=>zbI (zak (zah (zad rfl) zab zaa zaa zaT)))) ?_ ?_
 intro _
 refine zay (zah (zah (zad rfl) zab zaa zaa zaZ) (zah (zad rfl) zab zaa zaa (zb2 (by decide))) zaa zaa zaZ) ?_
 refine zcw ?_
 rotate_left
 intro _
 refine zav ?_
 refine zaM (S:=zaq _) ?_
 refine zay (zah (zad rfl) (zad rfl) zaa zaa zaZ) ?_
 refine zcw ?_
 rotate_left
 all_goals simp only [zmh, *,cond_true,cond_false]
noncomputable def zuC (n:List Nat) (a b c:Int):Int:=
 bif decide (n∈zeN) then 2147483648+(zeN.idxOf n:Nat) * 268435456+a * 16777216+b * 1048576+c % 1048576 else zpa n a b c
theorem zs9 (n:List Nat) (a b c:Int) (hn:n.length≤1000000) (hb:decide (n∈BRS)=false) (hf:zda n a b c=[]) (hi:decide (n=zbN)=false→decide (n=zcb)=false→decide (n∈OPS)=false→decide (n∈zeN)=false→slc n none (some (-1))∈OPS) (μ:Mem):zfM [.d (.tup [.str n,.int a,.int b,.int c])] μ = .ok (.d (.int (zuC n a b c))) μ:=by
 refine zbh (znh _) ?_
 unfold zlo
 have hr:=zjR n a b c hn hb μ
 rw [hf] at hr
 refine zau (zas (zaf (zad rfl) zag) rfl (by with_reducible assumption)) ?_
 refine zaD (zak (zah (zad rfl) zab zaa zaa zcm)) ?_ ?_
 intro h_
 exact Bool.noConfusion (show false=true from h_)
 intro _
 refine zav ?_
 refine zau (zah (zad rfl) zab zaa zaa (za4 (by decide) rfl)) ?_
 refine zaD (zak (zah (zad rfl) (zas zag rfl (zch _)) zaa zaa (zc7 zaX))) ?_ ?_
 intro _
 refine zbb ?_
 refine zau (zah zab (zah (zco (zas zag rfl (zch _)) rfl (zaf (zad rfl) zag) (zan zaa (zan zaa zaA)) (zn6 zaX (by decide) (of_decide_eq_true (by with_reducible assumption)))) zab zaa zaa (zfs (by decide))) zaa zaa zaZ) ?_
 refine zay (zah (zah (zah (zad rfl) (zah (zah (zad rfl) zab zaa zaa (za4 (by decide) rfl)) zab zaa zaa (zfs (by decide))) zaa zaa zaZ) (zah (zah (zad rfl) zab zaa zaa (za4 (by decide) rfl)) zab zaa zaa (zfs (by decide))) zaa zaa zaZ) (zah (zah (zad rfl) zab zaa zaa (za4 (by decide) rfl)) zab zaa zaa (zb2 (by decide))) zaa zaa zaZ) ?_
 refine zcw ?_
 rotate_left
 intro _
 refine zav ?_
 refine zaD (zak (zah (zad rfl) (za2 (zaf zab (zaf zab (zaf zab (zaf zab (zaf zab zag))))) rfl) zaa zaa (zbX (zal (zal (zal (zal (zal zaO)))))))) ?_ ?_
 intro h_
 exact Bool.noConfusion (Eq.trans (Eq.symm h_) (by with_reducible assumption):true=false)
 intro _
 refine zav ?_
 refine zaM (S:=zaq _) ?_
 refine zay (zas (zaf (zad rfl) zag) rfl (zly _ _ _ _ (by with_reducible assumption) (by intros;with_reducible solve_by_elim only [*]) _)) ?_
 refine zcw ?_
 rotate_left
 all_goals simp only [zuC, *,cond_true,cond_false]
theorem zta (n cond:List Nat) (c last:Int) (hb:n∈BRS) (hc:cond∈zcD) (hf:zcR n cond c last=[]) (μ:Mem):zfM [.d (.tup [.str n,.str cond,.int c,.int last])] μ = .ok (.d (.int (zmh n cond c last))) μ:=by
 refine zbh (znh _) ?_
 unfold zlo
 have hr:=zf5 n cond c last hb μ
 rw [hf] at hr
 obtain ⟨_,_,h2⟩:=zkp hb
 have h3:decide (n∈BRS)=true:=decide_eq_true hb
 refine zau (zas (zaf (zad rfl) zag) rfl (by with_reducible assumption)) ?_
 refine zaD (zak (zah (zad rfl) zab zaa zaa zcm)) ?_ ?_
 intro h_
 exact Bool.noConfusion (show false=true from h_)
 intro _
 refine zav ?_
 refine zau (zah (zad rfl) zab zaa zaa (za4 (by decide) rfl)) ?_
 refine zaD (zak (zah (zad rfl) (zas zag rfl (zch _)) zaa zaa (zc7 zaX))) ?_ ?_
 intro h_
 exact Bool.noConfusion (Eq.trans (Eq.symm h_) (by with_reducible assumption):true=false)
 intro _
 refine zav ?_
 refine zaD (zak (zah (zad rfl) (za2 (zaf zab (zaf zab (zaf zab (zaf zab (zaf zab zag))))) rfl) zaa zaa (zbX (zal (zal (zal (zal (zal zaO)))))))) ?_ ?_
 intro _
 refine zay (zas (zaf (zad rfl) zag) rfl (znS _ _ _ _ (by with_reducible assumption) _)) ?_
 refine zcw ?_
 rotate_left
 intro h_
 exact Bool.noConfusion (Eq.trans (Eq.symm h_) (by with_reducible assumption):false=true)
 rfl
noncomputable def isL (c:Nat):Bool:=(decide (97≤c) && decide (c≤122)) || (decide (65≤c) && decide (c≤90)) || decide (c=95)
noncomputable def isF (c:Nat):Bool:=decide (48≤c) && decide (c≤57)
noncomputable def isW (c:Nat):Bool:=isL c || isF c
theorem zgJ (c:Nat) (μ:Mem):zd1 [.d (.str [c])] μ = .ok (.d (.bool (isL c))) μ:=by
 refine zbh (zoD _) ?_
 unfold zkQ
 refine zaM (S:=zaq _) ?_
 refine zay (r_B (zrB (r_B (zff (zah zab (zad rfl) zaa zaa zkn) (fun x_=>zgu (zah (zad rfl) zab zaa zaa zkn)))) (fun x_=>zrB (r_B (zff (zah zab (zad rfl) zaa zaa zkn) (fun x_=>zgu (zah (zad rfl) zab zaa zaa zkn)))) (fun x_=>zs0 (zah (zad rfl) zab zaa zaa zaT))))) ?_
 refine zdh ?_
 rotate_left
 simp only [le1,eq1,isL,Bool.or_assoc]
theorem zib (c:Nat) (μ:Mem):zeT [.d (.str [c])] μ = .ok (.d (.bool (isF c))) μ:=by
 refine zbh (zoE _) ?_
 unfold zkR
 refine zaM (S:=zaq _) ?_
 refine zay (r_B (zff (zah zab (zad rfl) zaa zaa zkn) (fun x_=>zgu (zah (zad rfl) zab zaa zaa zkn)))) ?_
 refine zdh ?_
 rotate_left
 simp only [le1,isF]
theorem zpb (i n:Nat):seqIndex? (i:Int) n=if i < n then some i else none:=by
 unfold seqIndex?
 have h0:¬ ((i:Int) < 0):=by lia
 simp only [h0,if_false]
 by_cases h:i < n
 ·have:(decide (0≤(i:Int)) && decide ((i:Int) < (n:Int)))=true:=by simp;lia
  rw [if_pos this,if_pos h];simp
 ·have:¬ (decide (0≤(i:Int)) && decide ((i:Int) < (n:Int)))=true:=by simp;lia
  rw [if_neg this,if_neg h]
theorem ztb {α:Type} (l:List α) (i:Nat):at? l (i:Int)=l[i]?:=by
 unfold at?
 rw [zpb]
 by_cases h:i < l.length
 ·rw [if_pos h];rfl
 ·rw [if_neg h,List.getElem?_eq_none (by lia)];rfl
theorem zuD {x:List Nat} {i:Int}:zap (.str x) (.int i)=if small i then (at? x i).map fun c=>.str [c] else none:=rfl
theorem zuE {x:List D} {i:Int}:zap (.lst x) (.int i)=if small i then at? x i else none:=rfl
theorem ziV (l:List Nat) {e:Nat} (h:e < 1000000):zap (.str l) (.int (e:Int))=(l[e]?).map fun c=>.str [c]:=by
 have hs:small (e:Int):=⟨by lia,by lia⟩
 rw [zuD,if_pos hs,ztb]
theorem zef (l:List D) {e:Nat} (h:e < 1000000):zap (.lst l) (.int (e:Int))=l[e]?:=by
 have hs:small (e:Int):=⟨by lia,by lia⟩
 rw [zuE,if_pos hs,ztb]
noncomputable def zet (l:List Nat) (e:Nat):Nat:=e+((l.drop e).takeWhile isW).length
theorem zwr (l:List Nat) {e:Nat} (h:e≤l.length):zet l e≤l.length:=by
 unfold zet
 have:=(List.takeWhile_sublist isW (l:=l.drop e)).length_le
 rw [List.length_drop] at this;lia
theorem znn {l:List Nat} {e c:Nat} (h:l[e]? = some c):zet l e=if isW c then zet l (e+1) else e:=by
 unfold zet
 have hl:=(List.getElem?_eq_some_iff.mp h).1
 have:l.drop e=c :: l.drop (e+1):=by
  rw [List.drop_eq_getElem_cons hl]
  congr 1
  exact (List.getElem?_eq_some_iff.mp h).2
 rw [this,List.takeWhile_cons]
 split
 ·simp;lia
 ·simp
theorem zrG (l:List Nat) (s:Nat) (hl:l.length≤90000) (hs:s < l.length) (μ:Mem):zig [.d (.str l),.d (.int s)] μ = .ok (.d (.int (zet l (s+1)))) μ:=by
 refine zbh (zp3 _ _) ?_
 unfold zl1
 have hz:l.length≤16777216:=by lia
 have key:∀ (k e:Nat) (r:Loc),l.length < k+e→e≤l.length→kB2 (zaQ μ.length) (zcQ (zaq (zae 2))) (zc3 zfd zh7 k (some (.d (.str l)) :: some (.d (.int s)) :: some (.d (.int e)) :: r) μ) = .ok (.d (.int (zet l e))) μ:=by
  intro k
  induction k with
  | zero=>intro e r h1 h2;lia
  | succ k ih=>
   intro e r h1 h2
   rcases Nat.lt_or_ge e l.length with h | h
   ·have hc:l[e]? = some l[e]:=List.getElem?_eq_getElem h
    have hit:=ziV l (e:=e) (by lia)
    rw [hc] at hit
    replace hit:zap (.str l) (.int e)=some (.str [l[e]]):=hit
    have hlt:decide ((e:Int) < (l.length:Int))=true:=decide_eq_true (by lia)
    refine zkl (by unfold zfd;exact ze1 (zak (zah (zad rfl) (zaF (zaf (zad rfl) zag) (zan zaa zaA) (zf0 (by with_reducible assumption))) zaa zaa zft)) (fun x_=>zc4 (zbR (zak (zas (zaf (zah (zad rfl) (zad rfl) zaa zaa (by with_reducible assumption)) zag) rfl (zgJ _ _))) (fun x_=>zbI (zak (zas (zaf (zah (zad rfl) (zad rfl) zaa zaa (by with_reducible assumption)) zag) rfl (zib _ _))))))) ?_ ?_ <;> rw [hlt,Bool.true_and] <;> intro hw
    ·unfold zh7
     refine zaM (S:=zhr _ _) ?_
     refine zki rfl zab ?_
     refine zbD ?_
     refine zkm ?_
     rotate_left
     rw [znn hc,show isW l[e]=true from hw,if_pos rfl]
     exact ih (e+1) r (by lia) (by lia)
    ·refine zc8 ?_
     refine zaM (S:=zaq _) ?_
     refine zay (zad rfl) ?_
     refine zcw ?_
     rotate_left
     rw [znn hc,show isW l[e]=false from hw,if_neg (by decide)]
   ·have hlt:decide ((e:Int) < (l.length:Int))=false:=decide_eq_false (by lia)
    have ht:zfd (some (.d (.str l)) :: some (.d (.int s)) :: some (.d (.int e)) :: r) μ = .ok false μ:=by
     unfold zfd
     rw [zsK,show tst (zai (opC .Lt) (zae 2) (zaI zbw [zae 0])) (some (.d (.str l)) :: some (.d (.int s)) :: some (.d (.int e)) :: r) μ = .ok false μ from hlt▸(zak (zah (zad rfl) (zaF (zaf (zad rfl) zag) (zan zaa zaA) (zf0 (by with_reducible assumption))) zaa zaa zft))]
     rfl
    refine zkl ht ?_ ?_
    ·intro h;exact Bool.noConfusion h
    ·intro _
     refine zc8 ?_
     refine zaM (S:=zaq _) ?_
     refine zay (zad rfl) ?_
     refine zcw ?_
     rotate_left
     rw [show e=l.length by lia];simp [zet]
 have hf:=zqB
 refine zau (zah (zad rfl) zab zaa zaa zaZ) ?_
 refine zqG ?_
 exact key zlm (s+1) _ (by lia) (by lia)
noncomputable def zjS:Nat→List Nat→Option (List (List Nat))
 | 0,_=>some []
 | _+1,[]=>some []
 | k+1,c :: r=>bif decide ([c]=[59]) then some []
  else bif decide (c∈[32,9,13]) then zjS k r
  else bif decide (c∈[44,58,91,93]) then (zjS k r).map ([c] :: ·)
  else bif isL c || (isF c || decide ([c]=[45])) then (zjS k (r.dropWhile isW)).map ((c :: r.takeWhile isW) :: ·)
  else none
theorem ztc {l:List Nat} {p:Nat} (h:p≤l.length):l.drop (zet l p)=(l.drop p).dropWhile isW∧(l.drop p).take (zet l p - p)=(l.drop p).takeWhile isW:=by
 unfold zet
 generalize hm:l.drop p=m
 have e1:l.drop (p+(m.takeWhile isW).length)=m.drop (m.takeWhile isW).length:=by rw [← hm,List.drop_drop]
 rw [e1,show p+(m.takeWhile isW).length - p=(m.takeWhile isW).length by lia]
 clear e1 hm
 induction m with
 | nil=>simp
 | cons c m ih=>
  rw [List.takeWhile_cons,List.dropWhile_cons]
  split
  ·simp;exact ⟨ih.1,ih.2⟩
  ·simp
theorem ziW (n i:Nat) (h:i≤n):clipAt n (i:Int)=i:=by
 unfold clipAt
 have h0:¬ ((i:Int) < 0):=by lia
 simp only [h0,if_false]
 lia
theorem zws {α:Type} (l:List α) (i j:Nat) (hi:i≤l.length) (hj:j≤l.length):slc l (some (i:Int)) (some (j:Int))=(l.drop i).take (j - i):=by
 unfold slc
 simp only [Option.elim,ziW _ _ hi,ziW _ _ hj]
noncomputable def lex (l:List Nat):Option (List (List Nat)):=zjS (l.length+1) l
theorem zhA (l:List Nat):(l.dropWhile isW).length≤l.length:=(List.dropWhile_sublist isW).length_le
theorem zmi:∀ (n k:Nat) (l:List Nat),l.length < k→k≤n→zjS k l=lex l:=by
 intro n
 induction n with
 | zero=>intro k l h1 h2;lia
 | succ n ih=>
  intro k l h1 h2
  cases k with
  | zero=>lia
  | succ k=>
   cases l with
   | nil=>rfl
   | cons c r=>
    rw [List.length_cons] at h1
    have hd:=zhA r
    have e1:=ih k r (by lia) (by lia)
    have e2:=ih k (r.dropWhile isW) (by lia) (by lia)
    have e3:=ih (r.length+1) r (by lia) (by lia)
    have e4:=ih (r.length+1) (r.dropWhile isW) (by lia) (by lia)
    unfold lex
    rw [List.length_cons]
    simp only [zjS,e1,e2,e3,e4]
theorem zdW:lex []=some []:=rfl
theorem zgx (c:Nat) (r:List Nat):lex (c :: r)=bif decide ([c]=[59]) then some []
  else bif decide (c∈[32,9,13]) then lex r
  else bif decide (c∈[44,58,91,93]) then (lex r).map ([c] :: ·)
  else bif isL c || (isF c || decide ([c]=[45])) then (lex (r.dropWhile isW)).map ((c :: r.takeWhile isW) :: ·)
  else none:=by
 have hd:=zhA r
 have e1:=zmi (r.length+1) (r.length+1) r (by lia) (by lia)
 have e2:=zmi (r.length+1) (r.length+1) (r.dropWhile isW) (by lia) (by lia)
 show zjS (r.length+1+1) (c :: r)=_
 simp only [zjS,e1,e2]
noncomputable def zrH (row:Int) (μ:Mem) (acc:List (List Nat)):Option (List (List Nat))→RE
 | some ts=>.ok (.d (.lst ((acc ++ ts).map .str))) μ
 | none=>.exc (.asm row [98,97,100,32,99,104,97,114,97,99,116,101,114]) μ
theorem zpc (row:Int) (μ:Mem) (acc:List (List Nat)) (t:List Nat) (o:Option (List (List Nat))):zrH row μ acc (o.map (t :: ·))=zrH row μ (acc ++ [t]) o:=by
 cases o with
 | none=>rfl
 | some ts=>show RX.ok _ μ=RX.ok _ μ;rw [List.append_assoc];rfl
set_option tactic.hygienic true in
theorem zpd (l:List Nat) (row:Int) (hl:l.length≤90000) (μ:Mem):zg6 [.d (.str l),.d (.int row)] μ=zrH row μ [] (lex l):=by
 refine zhf (znH _ _) ?_
 unfold zjC
 have hz:l.length≤16777216:=by lia
 have key:∀ (k p:Nat) (acc:List (List Nat)) (x y:Option V) (r:Loc),l.length < k+p→p≤l.length→acc.length≤p→
   kB2 (zaQ μ.length) (zcQ (zaq (zae 2))) (zc3 zek zgZ k (some (.d (.str l)) :: some (.d (.int row)) :: some (.ref (μ.length+0)) :: some (.d (.int p)) :: x :: y :: r) (μ ++ [.list (acc.map .str)]))=zrH row μ acc (lex (l.drop p)):=by
  intro k
  induction k with
  | zero=>intro p acc x y r h1 h2;lia
  | succ k ih=>
   intro p acc x y r h1 h2 h3
   have hal:(acc.map D.str).length≤10000000:=by rw [List.length_map];lia
   rcases Nat.lt_or_ge p l.length with h | h
   ·have hc:l[p]? = some l[p]:=List.getElem?_eq_getElem h
    have hit:=ziV l (e:=p) (by lia)
    rw [hc] at hit
    replace hit:zap (.str l) (.int p)=some (.str [l[p]]):=hit
    have hlt:decide ((p:Int) < (l.length:Int))=true:=decide_eq_true (by lia)
    have hdrop:l.drop p=l[p] :: l.drop (p+1):=List.drop_eq_getElem_cons h
    have hwle:=zwr l (e:=p+1) (by lia)
    have hwd:=ztc (l:=l) (p:=p+1) (by lia)
    have hwgt:p+1≤zet l (p+1):=by unfold zet;lia
    have hsl:slc l (some (p:Int)) (some ((zet l (p+1):Nat):Int))=l[p] :: (l.drop (p+1)).takeWhile isW:=by
     rw [zws l p _ (by lia) hwle,hdrop,← hwd.2]
     have:zet l (p+1) - p=(zet l (p+1) - (p+1))+1:=by lia
     rw [this,List.take_succ_cons]
    rw [hdrop,zgx]
    generalize hcc:l[p]=c at *
    refine zkl (by unfold zek;exact ze1 (zak (zah (zad rfl) (zaF (zaf (zad rfl) zag) (zan zaa zaA) (zf0 (by with_reducible assumption))) zaa zaa zft)) (fun x_=>zc4 (zak (zah (zah (zad rfl) (zad rfl) zaa zaa (by with_reducible assumption)) zab zaa zaa zcm)))) ?_ ?_ <;> rw [hlt,Bool.true_and] <;> intro hw
    ·rw [show decide ([c]=[59])=false by simpa using hw,cond_false]
     unfold zgZ
     refine zau (zah (zad rfl) (zad rfl) zaa zaa (by with_reducible assumption)) ?_
     refine zaM (S:=kIf _ _ _) ?_
     refine zaD (zak (zah (zad rfl) zab zaa zaa zvs)) ?_ ?_
     intro _
     refine zki rfl zab ?_
     refine zbD ?_
     refine zkm ?_
     rotate_left
     intro _
     refine zaD (zak (zah (zad rfl) zab zaa zaa zvs)) ?_ ?_
     intro _
     refine zbb ?_
     refine zbY (zbU (zad rfl) (zaN rfl) (zad rfl) rfl (by with_reducible assumption)) ?_
     refine zki rfl zab ?_
     refine zbD ?_
     refine zkm ?_
     rotate_left
     intro _
     refine zaD (zbR (zak (zas (zaf (zad rfl) zag) rfl (zgJ _ _))) (fun x_=>zbR (zak (zas (zaf (zad rfl) zag) rfl (zib _ _))) (fun x_=>zbI (zak (zah (zad rfl) zab zaa zaa zaT))))) ?_ ?_
     intro _
     refine zbb ?_
     refine zau (zas (zaf (zad rfl) (zaf (zad rfl) zag)) rfl (zrG _ _ (by with_reducible assumption) (by with_reducible assumption) _)) ?_
     refine zbb ?_
     refine zbY (zbU (zad rfl) (zaN rfl) (zcz (zad rfl) (zcL (zad rfl)) (zcL (zad rfl)) zaa (zem (by with_reducible assumption))) rfl (by with_reducible assumption)) ?_
     refine zau (zad rfl) ?_
     refine zbD ?_
     refine zkm ?_
     rotate_left
     intro _
     refine zhj (zad rfl) zab ?_
     refine zvt ?_
     refine zvt ?_
     ·simp only [*,cond_true,cond_false]
      exact zrD rfl
     ·rename_i q1
      rw [q1,cond_true]
      exact ih (p+1) acc _ _ r (by lia) (by lia) (by lia)
     ·rename_i q1 q2
      rw [q1,q2,cond_true,cond_false,zpc]
      have:=ih (p+1) (acc ++ [[c]]) (some (.d (.str [c]))) y r (by lia) (by lia) (by simp;lia)
      rw [List.map_append] at this
      exact this
     ·rename_i q1 q2 q3
      rw [q1,q2,q3,cond_true,cond_false,cond_false,zpc,← hwd.1,hsl]
      have:=ih (zet l (p+1)) (acc ++ [c :: (l.drop (p+1)).takeWhile isW]) (some (.d (.str [c]))) (some (.d (.int (zet l (p+1))))) r (by lia) hwle (by simp;lia)
      rw [List.map_append] at this
      exact this
    ·rw [show decide ([c]=[59])=true by simpa using hw,cond_true]
     refine zc8 ?_
     refine zaM (S:=zaq _) ?_
     refine zay (zad rfl) ?_
     exact zgQ rfl (by rw [List.append_nil])
   ·have hlt:decide ((p:Int) < (l.length:Int))=false:=decide_eq_false (by lia)
    have ht:zek (some (.d (.str l)) :: some (.d (.int row)) :: some (.ref (μ.length+0)) :: some (.d (.int p)) :: x :: y :: r) (μ ++ [.list (acc.map .str)]) = .ok false (μ ++ [.list (acc.map .str)]):=by
     unfold zek
     rw [zsK,show tst (zai (opC .Lt) (zae 3) (zaI zbw [zae 0])) (some (.d (.str l)) :: some (.d (.int row)) :: some (.ref (μ.length+0)) :: some (.d (.int p)) :: x :: y :: r) (μ ++ [.list (acc.map .str)]) = .ok false (μ ++ [.list (acc.map .str)]) from hlt▸(zak (zah (zad rfl) (zaF (zaf (zad rfl) zag) (zan zaa zaA) (zf0 (by with_reducible assumption))) zaa zaa zft))]
     rfl
    rw [List.drop_eq_nil_of_le h,zdW]
    refine zkl ht ?_ ?_
    ·intro h;exact Bool.noConfusion h
    ·intro _
     refine zc8 ?_
     refine zaM (S:=zaq _) ?_
     refine zay (zad rfl) ?_
     exact zgQ rfl (by rw [List.append_nil])
 have hf:=zqB
 refine zau (zdV zag zo4 rfl) ?_
 refine zau zab ?_
 refine zqG ?_
 exact key zlm 0 [] _ _ _ (by lia) (by lia) (by simp)
noncomputable def zeO (x:List Nat):List Nat:=bif decide (slc x none (some 1)=[45]) then slc x (some 1) none else x
noncomputable def zdq (x:List Nat):Bool:=bif decide (zeO x=[]) then false else (zeO x).all isF
set_option tactic.hygienic true in
theorem zk2 (x:List Nat) (hx:x.length≤1000000) (ha:(zeO x).all (fun c=>decide (c < 128))=true) (μ:Mem):zgh [.d (.str x)] μ = .ok (.d (.bool (zdq x))) μ:=by
 refine zbh (zoF _) ?_
 unfold zkS
 have key:∀ (ds:List Nat) (a b c:Option V),kB2 (zaQ μ.length) (zcQ (zaq (zac (.bool true)))) (zcK (zat 2) zhu (ds.map fun y=>.str [y]) [a,b,c,none] μ) = .ok (.d (.bool (ds.all isF))) μ:=by
  intro ds
  induction ds with
  | nil=>
   intro a b c
   refine zdU ?_
   refine zc8 ?_
   refine zaM (S:=zaq _) ?_
   refine zay zab ?_
   refine zdh ?_
   rotate_left
   rfl
  | cons d ds ih=>
   intro a b c
   refine zez ?_
   unfold zhu
   refine zaM (S:=kIf _ _ _) ?_
   refine zaD (zdo (zak (zas (zaf (zad rfl) zag) rfl (zib _ _)))) ?_ ?_
   intro _
   refine zay zab ?_
   refine zyb ?_
   refine zya ?_
   refine zdh ?_
   rotate_left
   intro _
   refine zav ?_
   refine zbD ?_
   refine zdp ?_
   rotate_left
   ·rename_i h
    rw [List.all_cons,show isF d=false by simpa using h];rfl
   ·rename_i h
    rw [List.all_cons,show isF d=true by simpa using h]
    exact ih _ _ _
 refine zau (zix (zak (zah (zcz (zad rfl) zcy (zcL zab) zaa (zem (by lia))) zab zaa zaa zaT)) (fun x_=>zcz (zad rfl) (zcL zab) zcy zaa (zem (by lia))) (fun x_=>zad rfl)) ?_
 refine zaD (zak (zah (zad rfl) zab zaa zaa zaT)) ?_ ?_
 intro _
 refine zay zab ?_
 refine zdh ?_
 rotate_left
 intro _
 refine zav ?_
 ·rename_i h
  refine zx9 rfl ha ?_
  rw [show zdq x=(zeO x).all isF by unfold zdq;rw [show decide (zeO x=[])=false from h];rfl]
  exact key _ _ _ _
 ·rename_i h
  unfold zdq;rw [show decide (zeO x=[])=true from h];rfl
inductive PR (α:Type) where
 | ok (a:α) (p:Nat)
 | err (w:List Nat) (p:Nat)
noncomputable def PR.bind {α β:Type} (r:PR α) (k:α→Nat→PR β):PR β:=match r with
 | .ok a p=>k a p
 | .err w p=>.err w p
noncomputable abbrev rd (toks:List (List Nat)) (row:Int) (p:Nat):MO:=.inst [.lst (toks.map .str),.int row,.int p]
noncomputable def zb8 {α:Type} (f:α→D) (toks:List (List Nat)) (row:Int) (k:Nat) (μ:Mem):PR α→RE
 | .ok a p=>.ok (.d (f a)) (μ.set k (rd toks row p))
 | .err w p=>.exc (.asm row w) (μ.set k (rd toks row p))
noncomputable abbrev idD (d:D):D:=d
noncomputable def zbn (toks:List (List Nat)) (p:Nat):List Nat:=(toks[p]?).getD []
noncomputable def zdO (toks:List (List Nat)) (p:Nat):Nat:=if p < toks.length then p+1 else p
noncomputable def zbZ (toks:List (List Nat)):Prop:=toks.length≤90000∧(∀ t∈toks,t.length≤90000∧t.all (fun c=>decide (c < 128))=true)∧∀ t∈toks,t≠[]
theorem zgR {toks:List (List Nat)} (h:zbZ toks) (p:Nat):(zbn toks p).length≤90000∧(zbn toks p).all (fun c=>decide (c < 128))=true:=by
 unfold zbn
 rcases Nat.lt_or_ge p toks.length with q | q
 ·rw [List.getElem?_eq_getElem q];exact h.2.1 _ (List.getElem_mem q)
 ·rw [List.getElem?_eq_none q];exact ⟨by decide,rfl⟩
section
variable {toks:List (List Nat)} {row:Int} {k:Nat} {μ m:Mem} {α β:Type} {f:α→D} {g:β→D} {pr:PR α} {G:α→Nat→PR β} {P Q:PR β} {F:EF} {T:TF} {A B R:CF} {σ:Loc} {X:MO} {i p:Nat} {t:Bool} {w:List Nat}
theorem zjT {x:RE} {o:MO}:(μ.set k o).take (μ.set k X).length=μ.set k o:=by
 rw [List.length_set];have:=List.take_length (l:=μ.set k o);rw [List.length_set] at this;exact this
theorem ze3 {x:D} {a:α} (h:x=f a):zaQ (μ.set k X).length (.ok (.ret (.d x)) (μ.set k (rd toks row p)))=zb8 f toks row k μ (.ok a p):=by
 subst h;rw [zhU,zjT (x:=.stuck)];rfl
theorem zvv:zaQ (μ.set k X).length (.ok (.next σ) (μ.set k (rd toks row p)))=zb8 (fun x_=>.none) toks row k μ (.ok () p):=by rw [znm,zjT (x:=.stuck)];rfl
theorem zdA:zaQ (μ.set k X).length (.exc (.asm row w) (μ.set k (rd toks row p)))=zb8 f toks row k μ (.err w p):=by rw [zjN,zjT (x:=.stuck)];rfl
theorem zgK (hF:F σ m=zb8 f toks row k μ pr) (h:∀ a p,zaQ (μ.set k X).length (R (σ.set i (some (.d (f a)))) (μ.set k (rd toks row p)))=zb8 g toks row k μ (G a p)):zaQ (μ.set k X).length (zaj (zam (zat i) F) R σ m)=zb8 g toks row k μ (pr.bind G):=by
 cases pr with
 | ok a p=>exact zau hF (h a p)
 | err w p=>exact zgP hF zdA
theorem zmj {f:α→D} (hf:∀ a,f a = .none) (hF:F σ m=zb8 f toks row k μ pr) (h:∀ a p,zaQ (μ.set k X).length (R σ (μ.set k (rd toks row p)))=zb8 g toks row k μ (G a p)):zaQ (μ.set k X).length (zaj (zaY F) R σ m)=zb8 g toks row k μ (pr.bind G):=by
 cases pr with
 | ok a p=>exact zbY (by rw [hF];show RX.ok _ _=_;rw [hf]) (h a p)
 | err w p=>exact zdT hF zdA
theorem zn7 (hF:F σ m=zb8 f toks row k μ pr):zaQ (μ.set k X).length (zaj (zaq F) R σ m)=zb8 f toks row k μ pr:=by
 cases pr with
 | ok a p=>exact zay hF (ze3 rfl)
 | err w p=>exact ziy hF zdA
theorem zyf {pr:PR Int} (hF:F σ m=zb8 .int toks row k μ pr):zaQ (μ.set k X).length (zaj (zaq F) R σ m)=zb8 idD toks row k μ (pr.bind fun v p=>.ok (.int v) p):=by
 cases pr with
 | ok a p=>exact zay hF (ze3 rfl)
 | err w p=>exact ziy hF zdA
theorem ziA {A1 A2 A3:EF} {x1 x2 x3:D} (h1:A1 σ m = .ok (.d x1) m) (h2:A2 σ m = .ok (.d x2) m) (h3:A3 σ m = .ok (.d x3) m) (hF:F σ m=zb8 f toks row k μ pr):zaQ (μ.set k X).length (zaj (zaq (zaW [A1,A2,A3,F])) R σ m)=zb8 idD toks row k μ (pr.bind fun v p=>.ok (.tup [x1,x2,x3,f v]) p):=by
 cases pr with
 | ok a p=>exact zay (za2 (zaf h1 (zaf h2 (zaf h3 (zaf hF zag)))) rfl) (ze3 rfl)
 | err w p=>exact ziy (by rw [zoY,zfe,h1,bind_ok,zgt,zfe,h2,bind_ok,zgt,zfe,h3,bind_ok,zgt,zfe,hF];rfl) zdA
theorem ztd {A1 A2:EF} {x1 x2 x4:D} (h1:A1 σ m = .ok (.d x1) m) (h2:A2 σ m = .ok (.d x2) m) (hF:F σ m=zb8 f toks row k μ pr):zaQ (μ.set k X).length (zaj (zaq (zaW [A1,A2,F,zac x4])) R σ m)=zb8 idD toks row k μ (pr.bind fun v p=>.ok (.tup [x1,x2,f v,x4]) p):=by
 cases pr with
 | ok a p=>exact zay (za2 (zaf h1 (zaf h2 (zaf hF (zaf zab zag)))) rfl) (ze3 rfl)
 | err w p=>exact ziy (by rw [zoY,zfe,h1,bind_ok,zgt,zfe,h2,bind_ok,zgt,zfe,hF];rfl) zdA
theorem zyg {A1:EF} {x1 x3 x4:D} (h1:A1 σ m = .ok (.d x1) m) (hF:F σ m=zb8 f toks row k μ pr):zaQ (μ.set k X).length (zaj (zaq (zaW [A1,F,zac x3,zac x4])) R σ m)=zb8 idD toks row k μ (pr.bind fun v p=>.ok (.tup [x1,f v,x3,x4]) p):=by
 cases pr with
 | ok a p=>exact zay (za2 (zaf h1 (zaf hF (zaf zab (zaf zab zag)))) rfl) (ze3 rfl)
 | err w p=>exact ziy (by rw [zoY,zfe,h1,bind_ok,zgt,zfe,hF];rfl) zdA
theorem zcE {n:Nat} {m1:Mem} (h:T σ m = .ok t m1) (h1:t=true→zaQ n (zaj A R σ m1)=zb8 g toks row k μ P) (h2:t=false→zaQ n (zaj B R σ m1)=zb8 g toks row k μ Q):zaQ n (zaj (kIf T A B) R σ m)=zb8 g toks row k μ (bif t then P else Q):=by
 refine zaD h (fun e=>?_) (fun e=>?_) <;> rw [e]
 ·exact h1 e
 ·exact h2 e
end
theorem zdb {μ:Mem} {k:Nat} {toks:List (List Nat)} {row:Int} {p:Nat} (hk:k < μ.length) (w:List Nat):zcs [.ref k,.d (.str w)] (μ.set k (rd toks row p)) = .exc (.asm row w) (μ.set k (rd toks row p)):=by
 refine zbh (zrq _ _) ?_
 unfold znj
 refine zaM (S:=zdy _ _) ?_
 refine zhj (zeM (zad rfl) (zaR (by assumption)) rfl) (zad rfl) ?_
 exact zrE rfl
theorem zd6 {toks:List (List Nat)} {row:Int} {k:Nat} {μ:Mem} {p:Nat} (hs:zbZ toks) (hk:k < μ.length):zcH [.ref k] (μ.set k (rd toks row p)) = .ok (.d (.str (zbn toks p))) (μ.set k (rd toks row (zdO toks p))):=by
 refine zbh (zrr _) ?_
 unfold znk zbn zdO
 have hl:(toks.map D.str).length≤16777216:=by have:=hs.1;rw [List.length_map];lia
 have hlm:(toks.map D.str).length=toks.length:=List.length_map _
 refine zaD (zak (zah (zeM (zad rfl) (zaR (by assumption)) rfl) (zaF (zaf (zeM (zad rfl) (zaR (by assumption)) rfl) zag) (zan zaa zaA) (zdg (by with_reducible assumption))) zaa zaa zmd)) ?_ ?_
 ·intro h
  have h':toks.length≤p:=by rw [hlm] at h;have:=of_decide_eq_true h;lia
  rw [List.getElem?_eq_none h',if_neg (by lia)]
  refine zay zab ?_
  exact ze3 (f:=D.str) (row:=row) rfl
 ·intro h
  have h':p < toks.length:=by rw [hlm] at h;have:=of_decide_eq_false h;lia
  have hit:=zef (toks.map .str) (e:=p) (by have:=hs.1;lia)
  rw [List.getElem?_map,List.getElem?_eq_getElem h'] at hit
  rw [List.getElem?_eq_getElem h',if_pos h']
  refine zav (zyc (zad rfl) (zaR hk) rfl zab ?_)
  rw [List.set_set]
  have e1:(p:Int)+1 - 1=(p:Int):=by lia
  have hset:(μ.set k (rd toks row (p+1)))[k]? = some (rd toks row (p+1)):=zaR hk
  refine zaM (zay (zah (zeM (zad rfl) hset rfl) (zah (zeM (zad rfl) hset rfl) zab zaa zaa zfg) zaa zaa (e1▸hit)) ?_)
  exact ze3 (f:=D.str) (row:=row) rfl
section
variable {toks:List (List Nat)} {row:Int} {k:Nat} {μ:Mem} {p:Nat}
noncomputable def zdX (toks:List (List Nat)) (p:Nat) (sign:List Nat):PR Unit:=bif !decide (zbn toks p=sign) then .err ([101,120,112,101,99,116,101,100,32] ++ sign) (zdO toks p) else .ok () (zdO toks p)
theorem zfi (hs:zbZ toks) (hk:k < μ.length) (sign:List Nat) (hl:sign.length≤1000):zdm [.ref k,.d (.str sign)] (μ.set k (rd toks row p))=zb8 (fun x_=>.none) toks row k μ (zdX toks p sign):=by
 refine zbh (zoG _ _) ?_
 unfold zkT zdX
 have h9:([101,120,112,101,99,116,101,100,32]).length+sign.length≤16777216:=by show 9+sign.length≤_;lia
 refine zaM (S:=kIf _ _ _) ?_
 refine zcE (zak (zah (zaP (zad rfl) (zaR (by assumption)) zag rfl (zd6 (by assumption) (by assumption))) (zad rfl) zaa zaa zcm)) ?_ ?_
 intro _
 refine zdT (zaP (zad rfl) (zaR (by assumption)) (zaf (zah zab (zad rfl) zaa zaa (zbg (Nat.le_refl _) (by with_reducible assumption) (by decide))) zag) rfl (zdb (by assumption) _)) ?_
 exact zdA
 intro _
 refine zav ?_
 refine zbD ?_
 exact zvv
theorem zuF {α:Type} (l:List α):slc l none (some 1)=l.take 1:=by
 unfold slc clipAt
 cases l with
 | nil=>rfl
 | cons c l=>
  have:(max 0 (min (if (1:Int) < 0 then 1+((c :: l).length:Int) else 1) ((c :: l).length:Int))).toNat=1:=by
   rw [if_neg (by decide)];simp only [List.length_cons];lia
  simp only [Option.elim,this]
  rfl
theorem zhB {α:Type} (l:List α):slc l (some 1) none=l.drop 1:=by
 unfold slc clipAt
 cases l with
 | nil=>rfl
 | cons c l=>
  have:(max 0 (min (if (1:Int) < 0 then 1+((c :: l).length:Int) else 1) ((c :: l).length:Int))).toNat=1:=by
   rw [if_neg (by decide)];simp only [List.length_cons];lia
  simp only [Option.elim,this]
  exact List.take_of_length_le (by simp)
theorem zkq (x:List Nat):zeO x=if x.take 1=[45] then x.drop 1 else x:=by
 unfold zeO;rw [zuF,zhB];by_cases q:x.take 1=[45] <;> simp [q]
theorem zpe {x:List Nat} (h:x.all (fun c=>decide (c < 128))=true) (n:Nat):(x.drop n).all (fun c=>decide (c < 128))=true:=by
 rw [List.all_eq_true] at h ⊢
 exact fun c hc=>h c (List.mem_of_mem_drop hc)
theorem zmk {x:List Nat} (h:x.all (fun c=>decide (c < 128))=true):(zeO x).all (fun c=>decide (c < 128))=true:=by
 rw [zkq];split
 ·exact zpe h 1
 ·exact h
noncomputable def zg3 (x:List Nat):Int:=if x.take 1=[45] then -((NumText.digitsVal (x.drop 1):Nat):Int) else ((NumText.digitsVal x:Nat):Int)
theorem zte {x:List Nat} (h:zdq x=true) (hl:x.length≤640):ziL [.str x]=some (.int (zg3 x)):=by
 have hf:zeO x≠[]∧(zeO x).all isF=true:=by
  unfold zdq at h
  by_cases q:zeO x=[]
  ·rw [decide_eq_true q] at h;exact Bool.noConfusion h
  ·rw [decide_eq_false q] at h;exact ⟨q,h⟩
 have hd:NumText.AllDigits (zeO x):=by
  intro c hc
  have:=List.all_eq_true.mp hf.2 c hc
  unfold isF at this
  simpa using this
 unfold zg3
 rw [zkq] at hf hd
 show (if x.length≤640 then _ else none)=_
 rw [if_pos hl]
 have hlen:(Mine.Internal.str x).length≤4300:=by rw [zbk];lia
 by_cases q:x.take 1=[45]
 ·rw [if_pos q] at hf hd ⊢
  have hx:x=45 :: x.drop 1:=by
   cases x with
   | nil=>simp at q
   | cons c x=>simp at q;subst q;rfl
  rw [PySem.intText_neg (cs:=x.drop 1) (by show x=_;exact hx) hd hf.1 hlen]
  rfl
 ·rw [if_neg q] at hf hd ⊢
  rw [PySem.intText_digits (x:=Mine.Internal.str x) hd hf.1 hlen]
  rfl
theorem zpf {x:List Nat} (h:zdq x=true):x≠[]:=by
 intro e;subst e;exact Bool.noConfusion (show false=true from h)
theorem zm0 {t:List Nat} {i:Nat} (h:i < t.length) (hl:t.length≤90000):zap (.str t) (.int (i:Nat))=some (.str [t.getD i 0]):=by
 rw [ziV t (by lia),List.getElem?_eq_getElem h,List.getD_eq_getElem?_getD,List.getElem?_eq_getElem h];rfl
noncomputable def zn8 (t:List Nat) (q:Nat):PR Int:=
 bif !decide (slc t none (some 1)=[82]) || (!zdq (slc t (some 1) none) || (decide ((3:Int) < (t.length:Int)) || decide ([t.getD 1 0]=[45]))) then .err [101,120,112,101,99,116,101,100,32,97,32,114,101,103,105,115,116,101,114] q
 else bif decide (15 < zg3 (slc t (some 1) none)) || (decide ((t.length:Int)=3) && decide ([t.getD 1 0]=[48])) then .err [101,120,112,101,99,116,101,100,32,97,32,114,101,103,105,115,116,101,114] q
 else .ok (zg3 (slc t (some 1) none)) q
theorem zpg {t:List Nat} (hl:t.length≤90000) (h:(!zdq (slc t (some 1) none))=false):zap (.str t) (.int 1)=some (.str [t.getD 1 0]):=by
 refine zm0 (i:=1) ?_ hl
 have:=zpf (x:=slc t (some 1) none) (by simpa using h)
 rw [zhB] at this
 rcases Nat.lt_or_ge 1 t.length with h | h
 ·exact h
 ·exact absurd (List.drop_eq_nil_of_le h) this
noncomputable def zbv (toks:List (List Nat)) (p:Nat):PR Int:=zn8 (zbn toks p) (zdO toks p)
theorem zdu (hs:zbZ toks) (hk:k < μ.length):zck [.ref k] (μ.set k (rd toks row p))=zb8 .int toks row k μ (zbv toks p):=by
 refine zbh (zmM _) ?_
 obtain ⟨hl,ha⟩:=zgR hs p
 unfold zjd zbv
 refine zau (zaP (zad rfl) (zaR (by assumption)) zag rfl (zd6 (by assumption) (by assumption))) ?_
 generalize zbn toks p=t at *
 unfold zn8
 have h1:t.length≤16777216:=by lia
 have h2:(slc t (some 1) none).length≤1000000:=by rw [zhB,List.length_drop];lia
 have h3:(zeO (slc t (some 1) none)).all (fun c=>decide (c < 128))=true:=by rw [zhB];exact zmk (zpe ha 1)
 have h5:(!decide (slc t none (some 1)=[82]) || (!zdq (slc t (some 1) none) || (decide ((3:Int) < (t.length:Int)) || decide ([t.getD 1 0]=[45]))))=false→ziL [.str (slc t (some 1) none)]=some (.int (zg3 (slc t (some 1) none)))∧(!zdq (slc t (some 1) none))=false:=fun h=>by
  rw [Bool.or_eq_false_iff,Bool.or_eq_false_iff,Bool.or_eq_false_iff] at h
  refine ⟨zte (by simpa using h.2.1) ?_,h.2.1⟩
  have:=of_decide_eq_false h.2.2.1
  rw [zhB,List.length_drop];lia
 refine zcE (zbR (zak (zah (zcz (zad rfl) zcy (zcL zab) zaa (zem (by with_reducible assumption))) zab zaa zaa zcm)) (fun x_=>zbR (zdo (zak (zas (zaf (zcz (zad rfl) (zcL zab) zcy zaa (zem (by with_reducible assumption))) zag) rfl (zk2 _ (by with_reducible assumption) (by with_reducible assumption) _)))) (fun x_=>zbR (zak (zah (zaF (zaf (zad rfl) zag) (zan zaa zaA) (zf0 (by with_reducible assumption))) zab zaa zaa zhd)) (fun x_=>zbI (zak (zah (zah (zad rfl) zab zaa zaa (zpg (by assumption) (by assumption))) zab zaa zaa zaT)))))) ?_ ?_
 ·intro _
  refine zdT (zaP (zad rfl) (zaR (by assumption)) (zaf zab zag) rfl (zdb (by assumption) _)) ?_
  exact zdA
 intro h
 obtain ⟨h6,h7⟩:=h5 h
 refine zav ?_
 refine zcE (zbR (zak (zah (zaF (zaf (zcz (zad rfl) (zcL zab) zcy zaa (zem (by with_reducible assumption))) zag) (zan zaa zaA) (by with_reducible assumption)) zab zaa zaa zhd)) (fun x_=>zbI (ze1 (zak (zah (zaF (zaf (zad rfl) zag) (zan zaa zaA) (zf0 (by with_reducible assumption))) zab zaa zaa zdN)) (fun x_=>zc4 (zak (zah (zah (zad rfl) zab zaa zaa (zpg (by assumption) (by assumption))) zab zaa zaa zaT)))))) ?_ ?_
 intro _
 refine zdT (zaP (zad rfl) (zaR (by assumption)) (zaf zab zag) rfl (zdb (by assumption) _)) ?_
 exact zdA
 intro _
 refine zav ?_
 refine zaM (S:=zaq _) ?_
 refine zay (zaF (zaf (zcz (zad rfl) (zcL zab) zcy zaa (zem (by with_reducible assumption))) zag) (zan zaa zaA) (by with_reducible assumption)) ?_
 exact ze3 rfl
noncomputable def zkr (t:List Nat) (q:Nat):PR Int:=
 bif !zdq t then .err [101,120,112,101,99,116,101,100,32,97,32,110,117,109,98,101,114] q
 else bif decide ((13:Int) < (t.length:Int)) || (decide ((t.length:Int)=13) && !decide ([t.getD 0 0]=[45])) then .err [110,117,109,98,101,114,32,116,111,111,32,108,97,114,103,101] q else .ok (zg3 t) q
theorem zrI {t:List Nat} (hl:t.length≤90000) (h:(!zdq t)=false):zap (.str t) (.int 0)=some (.str [t.getD 0 0]):=zm0 (i:=0) (List.length_pos_iff.mpr (zpf (by simpa using h))) hl
theorem ztf {t:List Nat} {x:Bool} (h:(!zdq t)=false) (h':(decide ((13:Int) < (t.length:Int)) || x)=false):ziL [.str t]=some (.int (zg3 t)):=by
 rw [Bool.or_eq_false_iff] at h'
 have:=of_decide_eq_false h'.1
 exact zte (by simpa using h) (by lia)
noncomputable def zf6 (toks:List (List Nat)) (p:Nat):PR Int:=zkr (zbn toks p) (zdO toks p)
theorem ziX (hs:zbZ toks) (hk:k < μ.length):zfn [.ref k] (μ.set k (rd toks row p))=zb8 .int toks row k μ (zf6 toks p):=by
 refine zbh (zp5 _) ?_
 obtain ⟨hl,ha⟩:=zgR hs p
 unfold zl2 zf6
 refine zau (zaP (zad rfl) (zaR (by assumption)) zag rfl (zd6 (by assumption) (by assumption))) ?_
 generalize zbn toks p=t at *
 unfold zkr
 have h1:t.length≤16777216:=by lia
 have h2:t.length≤1000000:=by lia
 have h3:(zeO t).all (fun c=>decide (c < 128))=true:=zmk ha
 refine zcE (zdo (zak (zas (zaf (zad rfl) zag) rfl (zk2 _ (by with_reducible assumption) (by with_reducible assumption) _)))) ?_ ?_
 intro _
 refine zdT (zaP (zad rfl) (zaR (by assumption)) (zaf zab zag) rfl (zdb (by assumption) _)) ?_
 exact zdA
 intro _
 refine zav ?_
 refine zcE (zbR (zak (zah (zaF (zaf (zad rfl) zag) (zan zaa zaA) (zf0 (by with_reducible assumption))) zab zaa zaa zhd)) (fun x_=>zbI (ze1 (zak (zah (zaF (zaf (zad rfl) zag) (zan zaa zaA) (zf0 (by with_reducible assumption))) zab zaa zaa zdN)) (fun x_=>zc4 (zak (zah (zah (zad rfl) zab zaa zaa (zrI (by assumption) (by assumption))) zab zaa zaa zcm)))))) ?_ ?_
 intro _
 refine zdT (zaP (zad rfl) (zaR (by assumption)) (zaf zab zag) rfl (zdb (by assumption) _)) ?_
 exact zdA
 intro _
 refine zav ?_
 refine zaM (S:=zaq _) ?_
 refine zay (zaF (zaf (zad rfl) zag) (zan zaa zaA) (ztf (by assumption) (by assumption))) ?_
 exact ze3 rfl
end
section
variable {toks:List (List Nat)} {row:Int} {k:Nat} {μ:Mem} {p:Nat}
noncomputable def zbs (toks:List (List Nat)) (p:Nat):PR Int:=(zdX toks p [44]).bind fun x_ p1=>zbv toks p1
noncomputable def zbP (toks:List (List Nat)) (p:Nat):PR Int:=(zdX toks p [44]).bind fun x_ p1=>zf6 toks p1
theorem zdB (hs:zbZ toks) (hk:k < μ.length):zcx [.ref k] (μ.set k (rd toks row p))=zb8 .int toks row k μ (zbs toks p):=by
 refine zbh (zji _) ?_
 unfold zgO zbs
 refine zmj (fun x_=>rfl) (zaP (zad rfl) (zaR (by assumption)) (zaf zab zag) rfl (zfi (by assumption) (by assumption) _ (by decide))) ?_
 intro _ _
 refine zaM (S:=zaq _) ?_
 refine zn7 (zaP (zad rfl) (zaR (by assumption)) zag rfl (zdu (by assumption) (by assumption)))
theorem zdC (hs:zbZ toks) (hk:k < μ.length):zcB [.ref k] (μ.set k (rd toks row p))=zb8 .int toks row k μ (zbP toks p):=by
 refine zbh (zlp _) ?_
 unfold zhQ zbP
 refine zmj (fun x_=>rfl) (zaP (zad rfl) (zaR (by assumption)) (zaf zab zag) rfl (zfi (by assumption) (by assumption) _ (by decide))) ?_
 intro _ _
 refine zaM (S:=zaq _) ?_
 refine zn7 (zaP (zad rfl) (zaR (by assumption)) zag rfl (ziX (by assumption) (by assumption)))
noncomputable def zcF (toks:List (List Nat)) (p:Nat):PR (List Nat):=bif !decide (zbn toks p∈zcD) then .err [101,120,112,101,99,116,101,100,32,97,32,99,111,110,100,105,116,105,111,110] (zdO toks p) else .ok (zbn toks p) (zdO toks p)
theorem zgy (hs:zbZ toks) (hk:k < μ.length):zdH [.ref k] (μ.set k (rd toks row p))=zb8 .str toks row k μ (zcF toks p):=by
 refine zbh (zl3 _) ?_
 unfold ziu zcF
 refine zau (zaP (zad rfl) (zaR (by assumption)) zag rfl (zd6 (by assumption) (by assumption))) ?_
 refine zcE (zak (zah (zad rfl) (zas zag rfl (zhz _)) zaa zaa (zvr zaX))) ?_ ?_
 intro _
 refine zdT (zaP (zad rfl) (zaR (by assumption)) (zaf zab zag) rfl (zdb (by assumption) _)) ?_
 exact zdA
 intro _
 refine zav ?_
 refine zaM (S:=zaq _) ?_
 refine zay (zad rfl) ?_
 exact ze3 rfl
noncomputable def zhl (toks:List (List Nat)) (p:Nat):PR Unit:=bif decide ((p:Int) < ((toks.map D.str).length:Int)) then .err [116,111,111,32,109,97,110,121,32,111,112,101,114,97,110,100,115] p else .ok () p
theorem zqj (hs:zbZ toks) (hk:k < μ.length):zd3 [.ref k] (μ.set k (rd toks row p))=zb8 (fun x_=>.none) toks row k μ (zhl toks p):=by
 refine zbh (zoJ _) ?_
 have hl:(toks.map D.str).length≤16777216:=by have:=hs.1;rw [List.length_map];lia
 unfold zkV zhl
 refine zaM (S:=kIf _ _ _) ?_
 refine zcE (zak (zah (zeM (zad rfl) (zaR (by assumption)) rfl) (zaF (zaf (zeM (zad rfl) (zaR (by assumption)) rfl) zag) (zan zaa zaA) (zdg (by with_reducible assumption))) zaa zaa zft)) ?_ ?_
 intro _
 refine zdT (zaP (zad rfl) (zaR (by assumption)) (zaf zab zag) rfl (zdb (by assumption) _)) ?_
 exact zdA
 intro _
 refine zav ?_
 refine zbD ?_
 exact zvv
noncomputable def zdY (toks:List (List Nat)) (p:Nat):PR D:=(zdX toks p [44]).bind fun x_ p=>
 bif decide ((p:Int) < ((toks.map D.str).length:Int)) && isL ((zbn toks p).getD 0 0) then .ok (.str (zbn toks p)) (zdO toks p) else (zf6 toks p).bind fun v p=>.ok (.int v) p
theorem zlz (hs:zbZ toks) (h:decide ((p:Int) < ((toks.map D.str).length:Int))=true):zap (.lst (toks.map .str)) (.int p)=some (.str (zbn toks p)):=by
 have h':p < toks.length:=by have:=of_decide_eq_true h;rw [List.length_map] at this;lia
 have hit:=zef (toks.map .str) (e:=p) (by have:=hs.1;lia)
 rw [List.getElem?_map,List.getElem?_eq_getElem h'] at hit
 rw [hit];unfold zbn;rw [List.getElem?_eq_getElem h'];rfl
theorem zno (hs:zbZ toks) (h:decide ((p:Int) < ((toks.map D.str).length:Int))=true):zap (.str (zbn toks p)) (.int 0)=some (.str [(zbn toks p).getD 0 0]):=by
 have h':p < toks.length:=by have:=of_decide_eq_true h;rw [List.length_map] at this;lia
 refine zm0 (i:=0) ?_ (zgR hs p).1
 unfold zbn;rw [List.getElem?_eq_getElem h'];exact List.length_pos_iff.mpr (hs.2.2 _ (List.getElem_mem h'))
theorem zqk (hs:zbZ toks) (hk:k < μ.length):zhK [.ref k] (μ.set k (rd toks row p))=zb8 idD toks row k μ (zdY toks p):=by
 refine zbh (zoH _) ?_
 have hl:(toks.map D.str).length≤16777216:=by have:=hs.1;rw [List.length_map];lia
 unfold zkU zdY
 refine zmj (fun x_=>rfl) (zaP (zad rfl) (zaR (by assumption)) (zaf zab zag) rfl (zfi (by assumption) (by assumption) _ (by decide))) ?_
 intro _ _
 refine zcE (ze1 (zak (zah (zeM (zad rfl) (zaR (by assumption)) rfl) (zaF (zaf (zeM (zad rfl) (zaR (by assumption)) rfl) zag) (zan zaa zaA) (zdg (by with_reducible assumption))) zaa zaa zft)) (fun x_=>zc4 (zak (zas (zaf (zah (zah (zeM (zad rfl) (zaR (by assumption)) rfl) (zeM (zad rfl) (zaR (by assumption)) rfl) zaa zaa (zlz (by assumption) (by assumption))) zab zaa zaa (zno (by assumption) (by assumption))) zag) rfl (zgJ _ _))))) ?_ ?_
 intro _
 refine zay (zaP (zad rfl) (zaR (by assumption)) zag rfl (zd6 (by assumption) (by assumption))) ?_
 exact ze3 rfl
 intro _
 refine zav ?_
 refine zaM (S:=zaq _) ?_
 refine zyf (zaP (zad rfl) (zaR (by assumption)) zag rfl (ziX (by assumption) (by assumption)))
noncomputable abbrev za9 (n:List Nat) (a b c:D):D:=.tup [.str n,a,b,c]
noncomputable def zks (toks:List (List Nat)) (n:List Nat) (a b o:Int) (s:List Nat) (p:Nat):PR D:=
 bif !decide (s=[93]) then .err [101,120,112,101,99,116,101,100,32,93] p else .ok (za9 n (.int a) (.int b) (.int o)) p
noncomputable def zfj (toks:List (List Nat)) (p:Nat) (n:List Nat):PR D:=
 (zbv toks p).bind fun a p=>(zdX toks p [44]).bind fun x_ p=>(zdX toks p [91]).bind fun x_ p=>(zbv toks p).bind fun b p=>
  bif decide (zbn toks p=[44]) then (zf6 toks (zdO toks p)).bind fun o p=>zks toks n a b o (zbn toks p) (zdO toks p)
  else zks toks n a b 0 (zbn toks p) (zdO toks p)
theorem zph (hs:zbZ toks) (hk:k < μ.length) (n:List Nat):zg7 [.ref k,.d (.str n)] (μ.set k (rd toks row p))=zb8 idD toks row k μ (zfj toks p n):=by
 refine zbh (znJ _ _) ?_
 unfold zjE zfj zks
 refine zgK (zaP (zad rfl) (zaR (by assumption)) zag rfl (zdu (by assumption) (by assumption))) ?_
 intro _ _
 refine zmj (fun x_=>rfl) (zaP (zad rfl) (zaR (by assumption)) (zaf zab zag) rfl (zfi (by assumption) (by assumption) _ (by decide))) ?_
 intro _ _
 refine zmj (fun x_=>rfl) (zaP (zad rfl) (zaR (by assumption)) (zaf zab zag) rfl (zfi (by assumption) (by assumption) _ (by decide))) ?_
 intro _ _
 refine zgK (zaP (zad rfl) (zaR (by assumption)) zag rfl (zdu (by assumption) (by assumption))) ?_
 intro _ _
 refine zau zab ?_
 refine zau (zaP (zad rfl) (zaR (by assumption)) zag rfl (zd6 (by assumption) (by assumption))) ?_
 refine zcE (zak (zah (zad rfl) zab zaa zaa zaT)) ?_ ?_
 intro _
 refine zbb ?_
 refine zgK (zaP (zad rfl) (zaR (by assumption)) zag rfl (ziX (by assumption) (by assumption))) ?_
 intro _ _
 refine zau (zaP (zad rfl) (zaR (by assumption)) zag rfl (zd6 (by assumption) (by assumption))) ?_
 refine zcE (zak (zah (zad rfl) zab zaa zaa zcm)) ?_ ?_
 intro _
 refine zdT (zaP (zad rfl) (zaR (by assumption)) (zaf zab zag) rfl (zdb (by assumption) _)) ?_
 exact zdA
 intro _
 refine zav ?_
 refine zaM (S:=zaq _) ?_
 refine zay (za2 (zaf (zad rfl) (zaf (zad rfl) (zaf (zad rfl) (zaf (zad rfl) zag)))) rfl) ?_
 exact ze3 rfl
 intro _
 refine zav ?_
 refine zcE (zak (zah (zad rfl) zab zaa zaa zcm)) ?_ ?_
 intro _
 refine zdT (zaP (zad rfl) (zaR (by assumption)) (zaf zab zag) rfl (zdb (by assumption) _)) ?_
 exact zdA
 intro _
 refine zav ?_
 refine zaM (S:=zaq _) ?_
 refine zay (za2 (zaf (zad rfl) (zaf (zad rfl) (zaf (zad rfl) (zaf (zad rfl) zag)))) rfl) ?_
 exact ze3 rfl
noncomputable def zgS (toks:List (List Nat)) (n:List Nat) (a b:Int) (p:Nat):PR D:=
 bif !decide (zeB n=[]) then (zbP toks p).bind fun c p=>.ok (za9 n (.int a) (.int b) (.int c)) p else (zbs toks p).bind fun c p=>.ok (za9 n (.int a) (.int b) (.int c)) p
noncomputable def zcA (toks:List (List Nat)) (p:Nat) (n:List Nat):PR D:=
 (zbv toks p).bind fun a p=>bif !decide (n∈[zhy,zf4]) then (zbs toks p).bind fun b p=>zgS toks n a b p else zgS toks n a 0 p
theorem zml (hs:zbZ toks) (hk:k < μ.length) (n:List Nat) (hn:n.length≤1000000):zfB [.ref k,.d (.str n)] (μ.set k (rd toks row p))=zb8 idD toks row k μ (zcA toks p n):=by
 refine zbh (zlq _ _) ?_
 unfold zhR zcA zgS
 refine zgK (zaP (zad rfl) (zaR (by assumption)) zag rfl (zdu (by assumption) (by assumption))) ?_
 intro _ _
 refine zau zab ?_
 refine zcE (zak (zah (zad rfl) (za2 (zaf zab (zaf zab zag)) rfl) zaa zaa (zrC (zal (zal zaO))))) ?_ ?_
 intro _
 refine zgK (zaP (zad rfl) (zaR (by assumption)) zag rfl (zdB (by assumption) (by assumption))) ?_
 intro _ _
 refine zcE (zak (zah (zas (zaf (zad rfl) zag) rfl (zbV _ (by with_reducible assumption) _)) zab zaa zaa zcm)) ?_ ?_
 intro _
 refine ziA (zad rfl) (zad rfl) (zad rfl) (zaP (zad rfl) (zaR (by assumption)) zag rfl (zdC (by assumption) (by assumption)))
 intro _
 refine zav ?_
 refine zaM (S:=zaq _) ?_
 refine ziA (zad rfl) (zad rfl) (zad rfl) (zaP (zad rfl) (zaR (by assumption)) zag rfl (zdB (by assumption) (by assumption)))
 intro _
 refine zav ?_
 refine zcE (zak (zah (zas (zaf (zad rfl) zag) rfl (zbV _ (by with_reducible assumption) _)) zab zaa zaa zcm)) ?_ ?_
 intro _
 refine ziA (zad rfl) (zad rfl) (zad rfl) (zaP (zad rfl) (zaR (by assumption)) zag rfl (zdC (by assumption) (by assumption)))
 intro _
 refine zav ?_
 refine zaM (S:=zaq _) ?_
 refine ziA (zad rfl) (zad rfl) (zad rfl) (zaP (zad rfl) (zaR (by assumption)) zag rfl (zdB (by assumption) (by assumption)))
noncomputable def zeC (toks:List (List Nat)) (n:List Nat) (p:Nat):PR D:=
 bif decide (n∈OPS) || !decide (zeB n=[]) then zcA toks p n
 else bif decide (n=zcb) then (zbv toks p).bind fun a p=>(zbP toks p).bind fun c p=>.ok (za9 n (.int a) (.int 0) (.int c)) p
 else bif decide (n=zbN) then (zbv toks p).bind fun a p=>.ok (za9 n (.int a) (.int 0) (.int 0)) p
 else bif decide (n∈zeN) then zfj toks p n
 else bif decide (n=sB) || decide (n=sBL) then (zcF toks p).bind fun c p=>(zdY toks p).bind fun t p=>.ok (za9 n (.str c) t (.int 0)) p
 else bif decide (n=sBR) || decide (n=zdi) then (zcF toks p).bind fun c p=>(zbs toks p).bind fun t p=>.ok (za9 n (.str c) (.int t) (.int 0)) p
 else bif decide (n=zcg) then (zcF toks p).bind fun c p=>(zbP toks p).bind fun x p=>(zbP toks p).bind fun y p=>.ok (za9 n (.str c) (.int x) (.int y)) p
 else .err [117,110,107,110,111,119,110,32,105,110,115,116,114,117,99,116,105,111,110] p
noncomputable def zdD (toks:List (List Nat)) (p:Nat):PR D:=zeC toks (zbn toks p) (zdO toks p)
theorem zrJ (hs:zbZ toks) (hk:k < μ.length):zer [.ref k] (μ.set k (rd toks row p))=zb8 idD toks row k μ (zdD toks p):=by
 refine zbh (zp6 _) ?_
 have hn:(zbn toks p).length≤1000000:=Nat.le_trans (zgR hs p).1 (by decide)
 unfold zl5 zdD zeC
 refine zau (zaP (zad rfl) (zaR (by assumption)) zag rfl (zd6 (by assumption) (by assumption))) ?_
 refine zcE (zbR (zak (zah (zad rfl) (zas zag rfl (zcd _)) zaa zaa (zc7 zaX))) (fun x_=>zbI (zak (zah (zas (zaf (zad rfl) zag) rfl (zbV _ (by with_reducible assumption) _)) zab zaa zaa zcm)))) ?_ ?_
 intro _
 refine zn7 (zas (zaf (zad rfl) (zaf (zad rfl) zag)) rfl (zml (by assumption) (by assumption) _ (by assumption)))
 intro _
 refine zav ?_
 refine zcE (zak (zah (zad rfl) zab zaa zaa zaT)) ?_ ?_
 intro _
 refine zbb ?_
 refine zgK (zaP (zad rfl) (zaR (by assumption)) zag rfl (zdu (by assumption) (by assumption))) ?_
 intro _ _
 refine ziA (zad rfl) (zad rfl) zab (zaP (zad rfl) (zaR (by assumption)) zag rfl (zdC (by assumption) (by assumption)))
 intro _
 refine zav ?_
 refine zcE (zak (zah (zad rfl) zab zaa zaa zaT)) ?_ ?_
 intro _
 refine zyg (zad rfl) (zaP (zad rfl) (zaR (by assumption)) zag rfl (zdu (by assumption) (by assumption)))
 intro _
 refine zav ?_
 refine zcE (zak (zah (zad rfl) (zas zag rfl (zch _)) zaa zaa (zc7 zaX))) ?_ ?_
 intro _
 refine zn7 (zas (zaf (zad rfl) (zaf (zad rfl) zag)) rfl (zph (by assumption) (by assumption) _))
 intro _
 refine zav ?_
 refine zcE (zbR (zak (zah (zad rfl) zab zaa zaa zaT)) (fun x_=>zbI (zak (zah (zad rfl) zab zaa zaa zaT)))) ?_ ?_
 intro _
 refine zbb ?_
 refine zgK (zaP (zad rfl) (zaR (by assumption)) zag rfl (zgy (by assumption) (by assumption))) ?_
 intro _ _
 refine ztd (zad rfl) (zad rfl) (zaP (zad rfl) (zaR (by assumption)) zag rfl (zqk (by assumption) (by assumption)))
 intro _
 refine zav ?_
 refine zcE (zbR (zak (zah (zad rfl) zab zaa zaa zaT)) (fun x_=>zbI (zak (zah (zad rfl) zab zaa zaa zaT)))) ?_ ?_
 intro _
 refine zbb ?_
 refine zgK (zaP (zad rfl) (zaR (by assumption)) zag rfl (zgy (by assumption) (by assumption))) ?_
 intro _ _
 refine ztd (zad rfl) (zad rfl) (zaP (zad rfl) (zaR (by assumption)) zag rfl (zdB (by assumption) (by assumption)))
 intro _
 refine zav ?_
 refine zcE (zak (zah (zad rfl) zab zaa zaa zaT)) ?_ ?_
 intro _
 refine zbb ?_
 refine zgK (zaP (zad rfl) (zaR (by assumption)) zag rfl (zgy (by assumption) (by assumption))) ?_
 intro _ _
 refine zbb ?_
 refine zgK (zaP (zad rfl) (zaR (by assumption)) zag rfl (zdC (by assumption) (by assumption))) ?_
 intro _ _
 refine ziA (zad rfl) (zad rfl) (zad rfl) (zaP (zad rfl) (zaR (by assumption)) zag rfl (zdC (by assumption) (by assumption)))
 intro _
 refine zav ?_
 refine zaM (S:=zaq _) ?_
 refine ziy (zaP (zad rfl) (zaR (by assumption)) (zaf zab zag) rfl (zdb (by assumption) _)) ?_
 exact zdA
end
theorem ztg {toks:List (List Nat)} {row:Int} {k:Nat} {μ:Mem} (hk:k < μ.length):zd2 [.ref k,.d (.lst (toks.map .str)),.d (.int row)] (μ.set k (.inst [])) = .ok (.d .none) (μ.set k (rd toks row 0)):=by
 refine zbh (zmK _ _ _) ?_
 unfold zjc
 refine zo6 (zad rfl) (zad rfl) (zaR hk) rfl ?_
 rw [List.set_set]
 refine zo6 (zad rfl) (zad rfl) (zaR hk) rfl ?_
 rw [List.set_set]
 refine zaM (zo6 zab (zad rfl) (zaR hk) rfl ?_)
 rw [List.set_set]
 show zaQ _ (.ok (.next _) _)=_
 rw [znm,zjT (x:=.stuck)]
 rfl
theorem zjU {toks:List (List Nat)} {x:Bool} (hs:zbZ toks) (h:(decide ((1:Int) < ((toks.map D.str).length:Int)) && x)=true):zap (.lst (toks.map .str)) (.int 0)=some (.str (zbn toks 0))∧zap (.str (zbn toks 0)) (.int 0)=some (.str [(zbn toks 0).getD 0 0]):=by
 have h':=of_decide_eq_true (Bool.and_eq_true_iff.mp h).1
 have h0:decide (((0:Nat):Int) < ((toks.map D.str).length:Int))=true:=decide_eq_true (by lia)
 exact ⟨zlz hs h0,zno hs h0⟩
theorem zth {toks:List (List Nat)} (hs:zbZ toks) (h:decide ((1:Int) < ((toks.map D.str).length:Int))=true):zap (.lst (toks.map .str)) (.int 1)=some (.str (zbn toks 1)):=
 zlz (p:=1) hs h
noncomputable def zgT (toks:List (List Nat)):Option (List Nat):=
 bif decide ((1:Int) < ((toks.map D.str).length:Int)) && decide (zbn toks 1=[58]) then (bif !isL ((zbn toks 0).getD 0 0) then none else some (zbn toks 0)) else some []
noncomputable def oRE (row:Int) (w:List Nat) (μ:Mem):Option (List Nat)→RE
 | some l=>.ok (.d (.str l)) μ
 | none=>.exc (.asm row w) μ
theorem zrK {toks:List (List Nat)} (row:Int) (hs:zbZ toks) (μ:Mem):zih [.d (.lst (toks.map .str)),.d (.int row)] μ=oRE row [98,97,100,32,108,97,98,101,108] μ (zgT toks):=by
 refine zbh (zp8 _ _) ?_
 have hl:(toks.map D.str).length≤16777216:=by have:=hs.1;rw [List.length_map];lia
 unfold zl6 zgT
 rw [zo8 (oRE row _ μ),zo8 (oRE row _ μ)]
 dsimp only [oRE]
 refine zf3 (ze1 (zak (zah (zaF (zaf (zad rfl) zag) (zan zaa zaA) (zdg (by with_reducible assumption))) zab zaa zaa zhd)) (fun x_=>zc4 (zak (zah (zah (zad rfl) zab zaa zaa (zth (by assumption) (by assumption))) zab zaa zaa zaT)))) ?_ ?_
 intro _
 refine zbb ?_
 refine zf3 (zdo (zak (zas (zaf (zah (zah (zad rfl) zab zaa zaa ((zjU (by assumption) (by assumption)).1)) zab zaa zaa ((zjU (by assumption) (by assumption)).2)) zag) rfl (zgJ _ _)))) ?_ ?_
 intro _
 refine zhj (zad rfl) zab ?_
 exact zrE rfl
 intro _
 refine zav ?_
 refine zay (zah (zad rfl) zab zaa zaa ((zjU (by assumption) (by assumption)).1)) ?_
 refine zbd ?_
 rotate_left
 intro _
 refine zav ?_
 refine zaM (S:=zaq _) ?_
 refine zay zab ?_
 refine zbd ?_
 rotate_left
 all_goals rfl
noncomputable def zbf (labels:List (List Nat×Int)):List (List Nat×D):=labels.map fun p=>(p.1,.int p.2)
noncomputable def zbB (labels:List (List Nat×Int)) (s:List Nat):Option Int:=(labels.find? fun p=>p.1=s).map (·.2)
theorem zjV (labels:List (List Nat×Int)) (s:List Nat):zeW (zbf labels) s=(zbB labels s).map .int:=by
 unfold zeW zbf zbB
 induction labels with
 | nil=>rfl
 | cons p labels ih=>
  rw [List.map_cons,List.find?_cons,List.find?_cons]
  by_cases q:p.1=s
  ·simp [q]
  ·simp only [q,decide_false];exact ih
theorem zkt (labels:List (List Nat×Int)) (s:List Nat):decide (s∈(zbf labels).map (·.1))=(zbB labels s).isSome:=by
 rw [Bool.eq_iff_iff,decide_eq_true_iff]
 unfold zbf zbB
 rw [List.map_map,Option.isSome_map,List.find?_isSome]
 simp [Function.comp_def]
theorem zuG {μ:Mem} (n:List Nat) (c:D) (v i:Int) (l:V) (row:Int):zi7 [.d (.str n),.d c,.d (.int v),.d (.int i),l,.d (.int row)] μ = .ok (.d (za9 n c (.int v) (.int 0))) μ:=by
 refine zbh (zoL _ _ _ _ _ _) ?_
 unfold zmN
 refine zaD (zak (zaF (zaf (zad rfl) (zaf zab zag)) (zan zaa (zan zaa zaA)) zx8)) ?_ ?_
 intro h_
 exact Bool.noConfusion (show false=true from h_)
 intro _
 refine zav ?_
 refine zaM (S:=zaq _) ?_
 refine zay (za2 (zaf (zad rfl) (zaf (zad rfl) (zaf (zad rfl) (zaf zab zag)))) rfl) ?_
 refine zcv ?_
 rotate_left
 rfl
theorem zuH {μ:Mem} {k:Nat} {labels:List (List Nat×Int)} (h:μ[k]? = some (.dcS (zbf labels))) (n:List Nat) (c:D) (s:List Nat) (i:Int) (row:Int):zi7 [.d (.str n),.d c,.d (.str s),.d (.int i),.ref k,.d (.int row)] μ=match zbB labels s with
  | some v=>.ok (.d (za9 n c (.int (v - i - 1)) (.int 0))) μ
  | none=>.exc (.asm row [117,110,107,110,111,119,110,32,108,97,98,101,108]) μ:=by
 refine zbh (zoL _ _ _ _ _ _) ?_
 have hm:=zkt labels s
 have hlk:zap (.dcS (zbf labels)) (.str s)=(zbB labels s).map .int:=zjV labels s
 unfold zmN
 cases q:zbB labels s with
 | none=>
  rw [q] at hm hlk
  show _=RX.exc (.asm row [117,110,107,110,111,119,110,32,108,97,98,101,108]) μ
  replace hm:decide (s∈(zbf labels).map (·.1))=false:=hm
  have hm':(!decide (s∈(zbf labels).map (·.1)))=true:=by rw [hm];rfl
  refine zaD (zak (zaF (zaf (zad rfl) (zaf zab zag)) (zan zaa (zan zaa zaA)) zme)) ?_ ?_
  intro _
  refine zbb ?_
  refine zaD (zak (zah (zad rfl) (zad rfl) zaa (zfE (by with_reducible assumption)) zs6)) ?_ ?_
  intro _
  refine zhj (zad rfl) zab ?_
  exact zrE rfl
  intro h_
  exact Bool.noConfusion (Eq.trans (Eq.symm h_) (by with_reducible assumption):false=true)
  intro h_
  exact Bool.noConfusion (show true=false from h_)
 | some v=>
  rw [q] at hm hlk
  show _=RX.ok (V.d (za9 n c (.int (v - i - 1)) (.int 0))) μ
  replace hlk:zap (.dcS (zbf labels)) (.str s)=some (.int v):=hlk
  have hm':(!decide (s∈(zbf labels).map (·.1)))=false:=by rw [hm];rfl
  refine zaD (zak (zaF (zaf (zad rfl) (zaf zab zag)) (zan zaa (zan zaa zaA)) zme)) ?_ ?_
  intro _
  refine zbb ?_
  refine zaD (zak (zah (zad rfl) (zad rfl) zaa (zfE (by with_reducible assumption)) zs6)) ?_ ?_
  intro h_
  exact Bool.noConfusion (Eq.trans (Eq.symm h_) (by with_reducible assumption):true=false)
  intro _
  refine zav ?_
  refine zau (zah (zah (zah (zad rfl) (zad rfl) (zfE (by with_reducible assumption)) zaa (by with_reducible assumption)) (zad rfl) zaa zaa zfg) zab zaa zaa zfg) ?_
  refine zaM (S:=zaq _) ?_
  refine zay (za2 (zaf (zad rfl) (zaf (zad rfl) (zaf (zad rfl) (zaf zab zag)))) rfl) ?_
  refine zcv ?_
  rotate_left
  intro h_
  exact Bool.noConfusion (show true=false from h_)
  rfl
theorem zeD (n:Int) (hf:ze6 n=true) (hl:(zax n).length≤100) (μ:Mem):zdn [.d (.int n)] μ = .ok (.d (.str ([82] ++ zax n))) μ:=by
 refine zbh (zls _) ?_
 unfold zhS
 refine zaM (S:=zaq _) ?_
 refine zay (zah zab (zaF (zaf (zad rfl) zag) (zan zaa zaA) (zca (by with_reducible assumption))) zaa zaa (zbg (Nat.le_refl _) (by with_reducible assumption) (by decide))) ?_
 refine zbd ?_
 rotate_left
 rfl
noncomputable def ziY (n:List Nat) (c:Int) (l:List (List Nat)):List (List Nat):=
 bif decide (n∈OPS) then l ++ [[82] ++ zax c] else bif !decide (n=zbN) then l ++ [zax c] else l
noncomputable def zdZ (n:List Nat) (a b c:Int):List (List Nat):=
 bif !decide (n∈[zhy,zf4,zcb,zbN]) then ziY n c ([[82] ++ zax a] ++ [[82] ++ zax b]) else ziY n c [[82] ++ zax a]
noncomputable def zhC (a b c:Int):Prop:=(ze6 a=true∧(zax a).length≤100)∧(ze6 b=true∧(zax b).length≤100)∧(ze6 c=true∧(zax c).length≤100)
theorem zmm (n:List Nat) (a b c:Int) (h3:zhC a b c) (μ:Mem):zfC [.d (.tup [.str n,.int a,.int b,.int c])] μ = .ok (.d (.str (zaV [44,32] (zdZ n a b c)))) μ:=by
 obtain ⟨⟨fa,la⟩,⟨fb,lb⟩,fc,lc⟩:=h3
 refine zhf (zlu _) ?_
 unfold zhT
 refine zb7 (zad rfl) rfl ?_
 refine zau (zdV (zaf (zas (zaf (zad rfl) zag) rfl (zeD _ (by assumption) (by assumption) _)) zag) rfl rfl) ?_
 refine zaD (zak (zah (zad rfl) (za2 (zaf zab (zaf zab (zaf zab (zaf zab zag)))) rfl) zaa zaa (zrC (zal (zal (zal (zal zaO))))))) ?_ ?_
 intro _
 refine zbY (zbU (zad rfl) (zaN rfl) (zas (zaf (zad rfl) zag) rfl (zeD _ (by assumption) (by assumption) _)) rfl (of_decide_eq_true rfl)) ?_
 refine zaD (zak (zah (zad rfl) (zas zag rfl (zcd _)) zaa zaa (zc7 zaX))) ?_ ?_
 intro _
 refine zbY (zbU (zad rfl) (zaN rfl) (zas (zaf (zad rfl) zag) rfl (zeD _ (by assumption) (by assumption) _)) rfl (of_decide_eq_true rfl)) ?_
 refine zaM (S:=zaq _) ?_
 refine zay (zco zab rfl (zaf (zad rfl) zag) (zan zaa (zan (za0 (zaN rfl)) zaA)) (zcX (zfy (zfy (zal zaO) (zal zaO)) (zal zaO)) (zgw (zgw (sum_cons (zbJ (Nat.le_refl _) (by with_reducible assumption)) sum_nil) (sum_cons (zbJ (Nat.le_refl _) (by with_reducible assumption)) sum_nil)) (sum_cons (zbJ (Nat.le_refl _) (by with_reducible assumption)) sum_nil)) (zbJ (zbJ (Nat.le_refl _) (Nat.le_refl _)) (Nat.le_refl _)) (of_decide_eq_true rfl))) ?_
 refine zf2 ?_
 rotate_left
 intro _
 refine zaD (zak (zah (zad rfl) zab zaa zaa zcm)) ?_ ?_
 intro _
 refine zbY (zbU (zad rfl) (zaN rfl) (zaF (zaf (zad rfl) zag) (zan zaa zaA) (zca (by with_reducible assumption))) rfl (of_decide_eq_true rfl)) ?_
 refine zaM (S:=zaq _) ?_
 refine zay (zco zab rfl (zaf (zad rfl) zag) (zan zaa (zan (za0 (zaN rfl)) zaA)) (zcX (zfy (zfy (zal zaO) (zal zaO)) (zal zaO)) (zgw (zgw (sum_cons (zbJ (Nat.le_refl _) (by with_reducible assumption)) sum_nil) (sum_cons (zbJ (Nat.le_refl _) (by with_reducible assumption)) sum_nil)) (sum_cons (by with_reducible assumption) sum_nil)) (zbJ (zbJ (Nat.le_refl _) (Nat.le_refl _)) (Nat.le_refl _)) (of_decide_eq_true rfl))) ?_
 refine zf2 ?_
 rotate_left
 intro _
 refine zav ?_
 refine zaM (S:=zaq _) ?_
 refine zay (zco zab rfl (zaf (zad rfl) zag) (zan zaa (zan (za0 (zaN rfl)) zaA)) (zcX (zfy (zal zaO) (zal zaO)) (zgw (sum_cons (zbJ (Nat.le_refl _) (by with_reducible assumption)) sum_nil) (sum_cons (zbJ (Nat.le_refl _) (by with_reducible assumption)) sum_nil)) (zbJ (Nat.le_refl _) (Nat.le_refl _)) (of_decide_eq_true rfl))) ?_
 refine zf2 ?_
 rotate_left
 intro _
 refine zav ?_
 refine zaD (zak (zah (zad rfl) (zas zag rfl (zcd _)) zaa zaa (zc7 zaX))) ?_ ?_
 intro _
 refine zbY (zbU (zad rfl) (zaN rfl) (zas (zaf (zad rfl) zag) rfl (zeD _ (by assumption) (by assumption) _)) rfl (of_decide_eq_true rfl)) ?_
 refine zaM (S:=zaq _) ?_
 refine zay (zco zab rfl (zaf (zad rfl) zag) (zan zaa (zan (za0 (zaN rfl)) zaA)) (zcX (zfy (zal zaO) (zal zaO)) (zgw (sum_cons (zbJ (Nat.le_refl _) (by with_reducible assumption)) sum_nil) (sum_cons (zbJ (Nat.le_refl _) (by with_reducible assumption)) sum_nil)) (zbJ (Nat.le_refl _) (Nat.le_refl _)) (of_decide_eq_true rfl))) ?_
 refine zf2 ?_
 rotate_left
 intro _
 refine zaD (zak (zah (zad rfl) zab zaa zaa zcm)) ?_ ?_
 intro _
 refine zbY (zbU (zad rfl) (zaN rfl) (zaF (zaf (zad rfl) zag) (zan zaa zaA) (zca (by with_reducible assumption))) rfl (of_decide_eq_true rfl)) ?_
 refine zaM (S:=zaq _) ?_
 refine zay (zco zab rfl (zaf (zad rfl) zag) (zan zaa (zan (za0 (zaN rfl)) zaA)) (zcX (zfy (zal zaO) (zal zaO)) (zgw (sum_cons (zbJ (Nat.le_refl _) (by with_reducible assumption)) sum_nil) (sum_cons (by with_reducible assumption) sum_nil)) (zbJ (Nat.le_refl _) (Nat.le_refl _)) (of_decide_eq_true rfl))) ?_
 refine zf2 ?_
 rotate_left
 intro _
 refine zav ?_
 refine zaM (S:=zaq _) ?_
 refine zay (zco zab rfl (zaf (zad rfl) zag) (zan zaa (zan (za0 (zaN rfl)) zaA)) (zcX (zal zaO) (sum_cons (zbJ (Nat.le_refl _) (by with_reducible assumption)) sum_nil) (Nat.le_refl _) (of_decide_eq_true rfl))) ?_
 refine zf2 ?_
 rotate_left
 all_goals simp only [zdZ,ziY, *,cond_true,cond_false]
theorem zfF (x:List Nat):zaV x []=[]:=by
 unfold zaV Txt.join;rw [StrLaws.glued_eq_join];rfl
theorem zdc (x y:List Nat):zaV x [y]=y:=by
 unfold zaV Txt.join;rw [StrLaws.glued_eq_join];rfl
theorem zcG (x y z:List Nat) (ys:List (List Nat)):zaV x (y :: z :: ys)=y ++ x ++ zaV x (z :: ys):=by
 unfold zaV Txt.join
 rw [StrLaws.glued_eq_join,StrLaws.glued_eq_join]
 show (Mine.Internal.str y ++ Mine.Internal.str x ++ Str.join (Mine.Internal.str x) (Mine.Internal.str z :: ys.map Mine.Internal.str)).cps.toList=y ++ x ++ (Str.join (Mine.Internal.str x) (Mine.Internal.str z :: ys.map Mine.Internal.str)).cps.toList
 generalize Str.join (Mine.Internal.str x) (Mine.Internal.str z :: ys.map Mine.Internal.str)=j
 rw [zha]
 show (Str.append _ _).cps.toList=_
 simp [Mine.Internal.str,Str.append]
theorem zfG (x:List Nat) (ys:List (List Nat)):(zaV x ys).length=(ys.map (·.length)).sum+(ys.length - 1) * x.length:=by
 induction ys with
 | nil=>rw [zfF];simp
 | cons y ys ih=>
  cases ys with
  | nil=>rw [zdc];simp
  | cons z ys=>
   rw [zcG]
   simp only [List.length_append,ih,List.map_cons,List.sum_cons,List.length_cons]
   have:ys.length+1+1 - 1=ys.length+1:=by lia
   have h2:ys.length+1 - 1=ys.length:=by lia
   rw [this,h2,Nat.add_mul]
   lia
theorem zk3 (n:List Nat) (a b c:Int) (h3:zhC a b c):(zaV [44,32] (zdZ n a b c)).length≤1000:=by
 obtain ⟨⟨fa,la⟩,⟨fb,lb⟩,fc,lc⟩:=h3
 rw [zfG]
 unfold zdZ ziY
 cases (!decide (n∈[zhy,zf4,zcb,zbN])) <;> cases decide (n∈OPS) <;> cases (!decide (n=zbN)) <;> simp <;> lia
noncomputable def zdJ (n:List Nat) (a b c:Int):List Nat:=
 bif decide (n∈zeN) then n ++ [32,82] ++ zax a ++ [44,32,91,82] ++ zax b ++ [44,32] ++ zax c ++ [93] else n ++ [32] ++ zaV [44,32] (zdZ n a b c)
theorem zql (n:List Nat) (a b c:Int) (hn:n.length≤1000) (h1:decide (n=zcg)=false) (h2:(decide (n=sBR) || decide (n=zdi))=false) (h4:(decide (n=sB) || decide (n=sBL))=false) (h3:zhC a b c) (l:List Nat) (μ:Mem):zcN [.d (.tup [.str n,.int a,.int b,.int c]),.d (.str l)] μ = .ok (.d (.str (zdJ n a b c))) μ:=by
 have hlen:=zk3 n a b c h3
 have h5:=h3
 obtain ⟨⟨fa,la⟩,⟨fb,lb⟩,fc,lc⟩:=h5
 refine zbh (zkX _ _) ?_
 unfold zfZ
 refine zb7 (zad rfl) rfl ?_
 refine zaD (zak (zah (zad rfl) (zas zag rfl (zch _)) zaa zaa (zc7 zaX))) ?_ ?_
 intro _
 refine zay (zbm (ze2 (zad rfl) (by with_reducible assumption) (by decide)) (Nat.le_refl _) (by with_reducible assumption) (by decide) (fun x_=>zbm zab (by with_reducible assumption) (Nat.le_refl _) (by decide) (fun x_=>zbm (zhx (zad rfl) (by with_reducible assumption)) (by with_reducible assumption) (by with_reducible assumption) (by decide) (fun x_=>zbm zab (by with_reducible assumption) (Nat.le_refl _) (by decide) (fun x_=>zbm (zhx (zad rfl) (by with_reducible assumption)) (by with_reducible assumption) (by with_reducible assumption) (by decide) (fun x_=>zbm zab (by with_reducible assumption) (Nat.le_refl _) (by decide) (fun x_=>zbm (zhx (zad rfl) (by with_reducible assumption)) (by with_reducible assumption) (by with_reducible assumption) (by decide) (fun x_=>zbm zab (by with_reducible assumption) (Nat.le_refl _) (by decide) (fun x_=>ziw))))))))) ?_
 refine zbd ?_
 rotate_left
 intro _
 refine zav ?_
 refine zaD (zak (zah (zad rfl) zab zaa zaa zaT)) ?_ ?_
 intro h_
 exact Bool.noConfusion (Eq.trans (Eq.symm h_) (by with_reducible assumption):true=false)
 intro _
 refine zav ?_
 refine zaD (zbR (zak (zah (zad rfl) zab zaa zaa zaT)) (fun x_=>zbI (zak (zah (zad rfl) zab zaa zaa zaT)))) ?_ ?_
 intro h_
 exact Bool.noConfusion (Eq.trans (Eq.symm h_) (by with_reducible assumption):true=false)
 intro _
 refine zav ?_
 refine zaD (zbR (zak (zah (zad rfl) zab zaa zaa zaT)) (fun x_=>zbI (zak (zah (zad rfl) zab zaa zaa zaT)))) ?_ ?_
 intro h_
 exact Bool.noConfusion (Eq.trans (Eq.symm h_) (by with_reducible assumption):true=false)
 intro _
 refine zav ?_
 refine zaM (S:=zaq _) ?_
 refine zay (zah (zah (zad rfl) zab zaa zaa (zbg (by with_reducible assumption) (Nat.le_refl _) (by decide))) (zas (zaf (zad rfl) zag) rfl (zmm _ _ _ _ (by assumption) _)) zaa zaa (zbg (zbJ (by with_reducible assumption) (Nat.le_refl _)) (by with_reducible assumption) (by decide))) ?_
 refine zbd ?_
 rotate_left
 all_goals simp only [zdJ, *,cond_true,cond_false,List.nil_append]
noncomputable def zeg (n cond:List Nat) (b c:Int) (l:List Nat):List Nat:=
 bif decide (n=zcg) then [84,82,65,80,32] ++ cond ++ [44,32] ++ zax b ++ [44,32] ++ zax c
 else bif decide (n=sBR) || decide (n=zdi) then n ++ [32] ++ cond ++ [44,32,82] ++ zax b
 else n ++ [32] ++ cond ++ [44,32] ++ (bif !decide (l=[]) then l else zax b)
theorem zqI {n:List Nat} (hb:n∈BRS):n.length≤1000∧decide (n∈zeN)=false∧(decide (n=zcg)=false→(decide (n=sBR) || decide (n=zdi))=false→(decide (n=sB) || decide (n=sBL))=true):=by revert n;decide
theorem zuI {a b:List Nat} {t:Bool} (h1:a.length≤1000) (h2:b.length≤100):(bif t then a else b).length≤1000:=by cases t;exact Nat.le_trans h2 (by decide);exact h1
set_option tactic.hygienic true in
theorem zqm (n cond:List Nat) (b c:Int) (hb:n∈BRS) (hc:cond.length≤1000) (fb:ze6 b=true) (lb:(zax b).length≤100) (fc:ze6 c=true) (lc:(zax c).length≤100) (l:List Nat) (hl:l.length≤1000) (μ:Mem):zcN [.d (.tup [.str n,.str cond,.int b,.int c]),.d (.str l)] μ = .ok (.d (.str (zeg n cond b c l))) μ:=by
 obtain ⟨hn,hm,hx⟩:=zqI hb
 have hcl:=zuI (t:=!decide (l=[])) hl lb
 refine zbh (zkX _ _) ?_
 unfold zfZ
 refine zb7 (zad rfl) rfl ?_
 refine zaD (zak (zah (zad rfl) (zas zag rfl (zch _)) zaa zaa (zc7 zaX))) ?_ ?_
 intro h_
 exact Bool.noConfusion (Eq.trans (Eq.symm h_) (by with_reducible assumption):true=false)
 intro _
 refine zav ?_
 refine zaD (zak (zah (zad rfl) zab zaa zaa zaT)) ?_ ?_
 intro _
 refine zay (zbm zab (Nat.le_refl _) (Nat.le_refl _) (by decide) (fun x_=>zbm (ze2 (zad rfl) (by with_reducible assumption) (by decide)) (by with_reducible assumption) (by with_reducible assumption) (by decide) (fun x_=>zbm zab (by with_reducible assumption) (Nat.le_refl _) (by decide) (fun x_=>zbm (zhx (zad rfl) (by with_reducible assumption)) (by with_reducible assumption) (by with_reducible assumption) (by decide) (fun x_=>zbm zab (by with_reducible assumption) (Nat.le_refl _) (by decide) (fun x_=>zbm (zhx (zad rfl) (by with_reducible assumption)) (by with_reducible assumption) (by with_reducible assumption) (by decide) (fun x_=>ziw))))))) ?_
 refine zbd ?_
 rotate_left
 intro _
 refine zav ?_
 refine zaD (zbR (zak (zah (zad rfl) zab zaa zaa zaT)) (fun x_=>zbI (zak (zah (zad rfl) zab zaa zaa zaT)))) ?_ ?_
 intro _
 refine zay (zbm (ze2 (zad rfl) (by with_reducible assumption) (by decide)) (Nat.le_refl _) (by with_reducible assumption) (by decide) (fun x_=>zbm zab (by with_reducible assumption) (Nat.le_refl _) (by decide) (fun x_=>zbm (ze2 (zad rfl) (by with_reducible assumption) (by decide)) (by with_reducible assumption) (by with_reducible assumption) (by decide) (fun x_=>zbm zab (by with_reducible assumption) (Nat.le_refl _) (by decide) (fun x_=>zbm (zhx (zad rfl) (by with_reducible assumption)) (by with_reducible assumption) (by with_reducible assumption) (by decide) (fun x_=>ziw)))))) ?_
 refine zbd ?_
 rotate_left
 intro _
 refine zav ?_
 refine zaD (zbR (zak (zah (zad rfl) zab zaa zaa zaT)) (fun x_=>zbI (zak (zah (zad rfl) zab zaa zaa zaT)))) ?_ ?_
 intro _
 refine zbb ?_
 refine zau (zix (zak (zah (zad rfl) zab zaa zaa zcm)) (fun x_=>zad rfl) (fun x_=>zaF (zaf (zad rfl) zag) (zan zaa zaA) (zca (by with_reducible assumption)))) ?_
 refine zay (zbm (ze2 (zad rfl) (by with_reducible assumption) (by decide)) (Nat.le_refl _) (by with_reducible assumption) (by decide) (fun x_=>zbm zab (by with_reducible assumption) (Nat.le_refl _) (by decide) (fun x_=>zbm (ze2 (zad rfl) (by with_reducible assumption) (by decide)) (by with_reducible assumption) (by with_reducible assumption) (by decide) (fun x_=>zbm zab (by with_reducible assumption) (Nat.le_refl _) (by decide) (fun x_=>zbm (ze2 (zad rfl) (by with_reducible assumption) (by decide)) (by with_reducible assumption) (by with_reducible assumption) (by decide) (fun x_=>ziw)))))) ?_
 refine zbd ?_
 rotate_left
 intro _
 refine zav ?_
 refine zaM (S:=zaq _) ?_
 ·rename_i h
  rw [hx (by assumption) (by assumption)] at h;exact Bool.noConfusion h
 all_goals simp only [zeg, *,cond_true,cond_false,List.nil_append]
theorem zti (v:V) (μ:Mem):zgi [v] μ=zcN [v,.d (.str [])] μ:=by
 unfold zgi zcN
 rw [zlR,zlR];rfl
noncomputable def tgt (n:List Nat) (b:Int) (i len:Nat):Int:=
 bif !decide (n=sB) && !decide (n=sBL) then -1 else bif decide ((i:Int)+1+b < 0) || decide ((len:Int) < (i:Int)+1+b) then -1 else (i:Int)+1+b
theorem zqn {μ:Mem} {k i:Nat} {ds:List D} {n:List Nat} {x y:D} {b:Int} (h:μ[k]? = some (.list ds)) (hl:ds.length≤1000) (hi:ds[i]? = some (za9 n x (.int b) y)):zd4 [.ref k,.d (.int i)] μ = .ok (.d (.int (tgt n b i ds.length))) μ:=by
 refine zbh (zoO _ _) ?_
 have hlt:=(List.getElem?_eq_some_iff.mp hi).1
 have hit:=zef ds (e:=i) (by lia)
 rw [hi] at hit
 unfold zkY
 refine zau (zah (zah (zad rfl) (zad rfl) (za0 (by with_reducible assumption)) zaa (by with_reducible assumption)) zab zaa zaa (za4 (by decide) rfl)) ?_
 refine zaD (ze1 (zak (zah (zad rfl) zab zaa zaa zcm)) (fun x_=>zc4 (zak (zah (zad rfl) zab zaa zaa zcm)))) ?_ ?_
 intro _
 refine zay (zdz zab) ?_
 refine zcw ?_
 rotate_left
 intro _
 refine zav ?_
 refine zau (zah (zah (zad rfl) zab zaa zaa zaZ) (zah (zah (zad rfl) (zad rfl) (za0 (by with_reducible assumption)) zaa (by with_reducible assumption)) zab zaa zaa (za4 (by decide) rfl)) zaa zaa zaZ) ?_
 refine zaD (zbR (zak (zah (zad rfl) zab zaa zaa zft)) (fun x_=>zbI (zak (zah (zad rfl) (zaF (zaf (zad rfl) zag) (zan (za0 (by with_reducible assumption)) zaA) (zdg (by lia))) zaa zaa zhd)))) ?_ ?_
 intro _
 refine zay (zdz zab) ?_
 refine zcw ?_
 rotate_left
 intro _
 refine zav ?_
 refine zaM (S:=zaq _) ?_
 refine zay (zad rfl) ?_
 refine zcw ?_
 rotate_left
 all_goals simp only [tgt, *,cond_true,cond_false]
noncomputable abbrev HEX:List Nat:=[48,49,50,51,52,53,54,55,56,57,65,66,67,68,69,70]
noncomputable def zfz (w:Int) (p:Nat):Nat:=(HEX[(w / 16 ^ (7 - p) % 16).toNat]?).getD 0
theorem zpi (j:Int) (h0:0≤j) (h1:j < 16):zap (.str HEX) (.int j)=some (.str [(HEX[j.toNat]?).getD 0]):=by
 have:=ziV HEX (e:=j.toNat) (by lia)
 rw [Int.toNat_of_nonneg h0] at this
 rw [this]
 have hl:j.toNat < HEX.length:=by show j.toNat < 16;lia
 rw [List.getElem?_eq_getElem hl];rfl
theorem ztj {p:Nat} (hp:p < 8):((0:Int)≤7 - (p:Int)∧7 - (p:Int) < 1000∧(0:Int)≤16∧(16:Int) < 1000)∧(0:Int) < 16 ^ (7 - (p:Int)).toNat∧(16:Int) ^ (7 - (p:Int)).toNat < 1073741824:=by
 revert p;decide
theorem zyh (w:Int) (p:Nat):zap (.str HEX) (.int (w / 16 ^ (7 - (p:Int)).toNat % 16))=some (.str [zfz w p]):=by
 have:=zpi (w / 16 ^ (7 - (p:Int)).toNat % 16) (Int.emod_nonneg _ (by decide)) (Int.emod_lt_of_pos _ (by decide))
 rw [this,show (7 - (p:Int)).toNat=7 - p by lia];rfl
noncomputable def zf7 (w:Int):List Nat:=zaV [] ((List.range 8).map fun p=>[zfz w p])
theorem zrL (w:Int) (μ:Mem):zii [.d (.int w)] μ = .ok (.d (.str (zf7 w))) μ:=by
 refine zhf (zqc _) ?_
 unfold zl8 zf7
 have key:∀ (ps:List Nat) (acc:List (List Nat)) (r:Option V),(∀ p∈ps,p < 8)→acc.length+ps.length≤8→(acc.map (·.length)).sum≤acc.length→
   kB2 (zaQ μ.length) (zcQ (zaq (zb9 "str" zc2 (zac (.str [])) [(zae 1)]))) (zcK (zat 2) zh9 (ps.map fun i=>.int (i:Nat)) [some (.d (.int w)),some (.ref (μ.length+0)),r,none] (μ ++ [.list (acc.map .str)])) = .ok (.d (.str (zaV [] (acc ++ ps.map fun p=>[zfz w p])))) μ:=by
  intro ps
  induction ps with
  | nil=>
   intro acc r _ h1 h2
   refine zdU (zc8 ?_)
   have h3:(acc.map (·.length)).sum≤8:=by simp at h1;lia
   have h4:acc.length≤8:=by simp at h1;lia
   refine zaM (S:=zaq _) ?_
   refine zay (zco zab rfl (zaf (zad rfl) zag) (zan zaa (zan (za0 (zaN rfl)) zaA)) (zcX zaX (by with_reducible assumption) (by with_reducible assumption) (by decide))) ?_
   refine zf2 ?_
   rotate_left
   rw [List.map_nil,List.append_nil]
  | cons p ps ih=>
   intro acc r hps h1 h2
   rw [List.length_cons] at h1
   obtain ⟨e1,e2⟩:=ztj (hps p (List.mem_cons_self ..))
   have e3:=zyh w p
   have e4:(acc.map D.str).length≤10000000:=by rw [List.length_map];lia
   refine zez ?_
   unfold zh9
   refine zaM (S:=zaY _) ?_
   refine zbY (zbU (zad rfl) (zaN rfl) (zah zab (zah (zah (zad rfl) (zah zab (zah zab (zad rfl) zaa zaa zfg) zaa zaa (zvp (by with_reducible assumption))) zaa zaa (zmc (by with_reducible assumption))) zab zaa zaa (zb2 (by decide))) zaa zaa (by with_reducible assumption)) rfl (by with_reducible assumption)) ?_
   refine zbD ?_
   refine zdp ?_
   rotate_left
   have:=ih (acc ++ [[zfz w p]]) (some (.d (.int p))) (fun q hq=>hps q (List.mem_cons_of_mem _ hq)) (by simp;lia) (by simp;lia)
   rw [List.map_append,List.append_assoc] at this
   exact this
 refine zau (zdV zag zo4 rfl) ?_
 refine zfh (n:=8) zab (by decide) ?_
 exact key (List.range 8) [] _ (fun p hp=>List.mem_range.mp hp) (by decide) (by decide)
theorem zk4 (l:List Int):SeqAt.shaped (D.lst (l.map .int)).py=true:=by
 have h:∀ l:List Int,PyData.canLayAll0 (pys (l.map .int))=true∧PyData.depthAll (pys (l.map .int))=0:=by
  intro l
  induction l with
  | nil=>simp [pys,PyData.canLayAll0,PyData.depthAll]
  | cons x l ih=>simp [pys,D.py,PyData.canLayAll0,PyData.depthAll,PyData.canLay0,PyData.depth,ih]
 obtain ⟨h1,h2⟩:=h l
 simp [SeqAt.shaped,D.py,PyData.canLay0,PyData.depth,h1,h2]
theorem zyi (l:List Int):ziH (.lst (l.map .int)) (.lst [])=some (decide (l=[])):=by
 have h1:=zk4 l
 have h2:=zk4 []
 have h3:PyData.eqv (D.lst (l.map .int)).py (D.lst []).py=decide (l=[]):=by
  cases l <;> simp [D.py,pys,PyData.eqv,PyData.eqvAll]
 exact (if_pos ⟨h1,h2⟩).trans (congrArg some h3)
theorem zwt {l:List Int}:opC .NotEq (.lst (l.map .int)) (.lst [])=some (.bool (!decide (l=[]))):=by
 show ((ziH _ _).map _).map _=_;rw [zyi];rfl
noncomputable def nx (l:List Int):Int:=l.getLast?.getD 0
noncomputable def rest (l:List Int):List Int:=l.dropLast
noncomputable abbrev zaL (l:List Int):MO:=.list (l.map .int)
noncomputable def za8 (l:List Int):Prop:=l.length≤100000∧∀ x∈l,0≤x∧x < 1024
theorem zao {l:List Int} (h:za8 l):za8 (rest l):=by
 refine ⟨?_,fun x hx=>h.2 x ?_⟩
 ·have:=h.1;unfold rest;rw [List.length_dropLast];lia
 ·unfold rest at hx;rw [List.dropLast_eq_take] at hx;exact List.mem_of_mem_take hx
theorem zuJ {l:List Int} (h:za8 l):0≤nx l∧nx l < 1024:=by
 unfold nx
 cases q:l.getLast? with
 | none=>exact ⟨Int.le_refl _,by decide⟩
 | some x=>exact h.2 x (List.mem_of_getLast? q)
theorem zdj {μ:Mem} {k:Nat} {X Y:MO} {x y:D} (h:x=y):zaQ (μ.set k X).length (.ok (.ret (.d x)) (μ.set k Y)) = .ok (.d y) (μ.set k Y):=by
 subst h;rw [zhU,zjT (x:=.stuck)]
theorem zzm {F:EF} {σ:Loc} {μ μ1:Mem} {k:Nat} {ds:List D} {x:D} (h0:F σ μ = .ok (.ref k) μ1) (h:μ1[k]? = some (.list ds)) (hx:ds.getLast? = some x) (hl:ds.length≤10000000):zoo F σ μ = .ok (.d x) (μ1.set k (.list ds.dropLast)):=by
 unfold zoo;rw [h0,bind_ok,if_pos (zmU h)]
 show (atL μ1 k).elim _ _=_
 rw [znX h]
 show ds.getLast?.elim _ _=_
 rw [hx];exact if_pos hl
theorem zbo {μ:Mem} {k:Nat} {l:List Int} (hk:k < μ.length) (hl:za8 l):zaB [.ref k] (μ.set k (zaL l)) = .ok (.d (.int (nx l))) (μ.set k (zaL (rest l))):=by
 refine zbh (zoP _) ?_
 unfold zkZ
 have hm:(μ.set k (zaL l))[k]? = some (zaL l):=zaR hk
 refine zaM (zeo (zaD (zak (zah (zad rfl) (zbA zag rfl) (za0 hm) zaa zwt)) ?_ ?_))
 ·intro h
  cases l with
  | nil=>exact Bool.noConfusion (show false=true from h)
  | cons x l=>
   have hlast:((x :: l).map D.int).getLast? = some (.int (nx (x :: l))):=by
    unfold nx;rw [List.getLast?_map,List.getLast?_eq_some_getLast (by simp)];rfl
   refine zay (zzm (zad rfl) hm hlast (by rw [List.length_map];exact Nat.le_trans hl.1 (by decide))) ?_
   rw [List.set_set,show ((x :: l).map D.int).dropLast=(rest (x :: l)).map .int by simp [rest,List.dropLast_eq_take,List.map_take]]
   exact zdj rfl
 ·intro h
  have:l=[]:=by simpa using h
  subst this
  exact zay zab (zdj rfl)
theorem zep (μ:Mem):zc0 [] μ = .ok (.d (.lst (OPS.map .str))) μ:=by
 refine zbh (znN) ?_
 unfold zjI
 refine zaM (S:=zaq _) ?_
 refine zay (zbA (zaf zab (zaf zab (zaf zab (zaf zab (zaf zab (zaf zab (zaf zab (zaf zab (zaf zab (zaf zab (zaf zab (zaf zab zag)))))))))))) rfl) ?_
 refine zcv ?_
 rotate_left
 rfl
theorem zqo (μ:Mem):zg8 [] μ = .ok (.d (.lst (zcD.map .str))) μ:=by
 refine zbh (znO) ?_
 unfold zjJ
 refine zaM (S:=zaq _) ?_
 refine zay (zbA (zaf zab (zaf zab (zaf zab (zaf zab (zaf zab (zaf zab (zaf zab (zaf zab (zaf zab (zaf zab (zaf zab (zaf zab (zaf zab (zaf zab (zaf zab (zaf zab zag)))))))))))))))) rfl) ?_
 refine zcv ?_
 rotate_left
 rfl
noncomputable def za1 (L:List (List Nat)) (i:Int):List Nat:=L.getD i.toNat []
theorem ziB {L:List (List Nat)} {v n:Int} (h:n=L.length) (h0:0 < L.length) (hl:L.length≤1000):zap (.lst (L.map .str)) (.int (v % n))=some (.str (za1 L (v % n))):=by
 have h1:0≤v % n:=Int.emod_nonneg _ (by lia)
 have h2:v % n < n:=Int.emod_lt_of_pos _ (by lia)
 have hit:=zef (L.map .str) (e:=(v % n).toNat) (by lia)
 rw [Int.toNat_of_nonneg h1,List.getElem?_map,List.getElem?_eq_getElem (show (v % n).toNat < L.length by lia)] at hit
 rw [hit];unfold za1
 rw [List.getD_eq_getElem?_getD,List.getElem?_eq_getElem (show (v % n).toNat < L.length by lia)];rfl
theorem zeP {L:List (List Nat)} {v n:Int} (h:n=L.length) (h0:0 < L.length):za1 L (v % n)∈L:=by
 have h1:0≤v % n:=Int.emod_nonneg _ (by lia)
 have h2:v % n < n:=Int.emod_lt_of_pos _ (by lia)
 unfold za1
 rw [List.getD_eq_getElem?_getD,List.getElem?_eq_getElem (show (v % n).toNat < L.length by lia)]
 exact List.getElem_mem _
theorem zqJ {a b:List Nat} {v:Int}:zap (.lst [.str a,.str b]) (.int (v % 2))=some (.str (za1 [a,b] (v % 2))):=ziB (L:=[a,b]) rfl (Nat.zero_lt_succ _) (Nat.le_of_ble_eq_true rfl)
theorem zwu {a b c:List Nat} {v:Int}:zap (.lst [.str a,.str b,.str c]) (.int (v % 3))=some (.str (za1 [a,b,c] (v % 3))):=ziB (L:=[a,b,c]) rfl (Nat.zero_lt_succ _) (Nat.le_of_ble_eq_true rfl)
theorem zwv {a b c d:List Nat} {v:Int}:zap (.lst [.str a,.str b,.str c,.str d]) (.int (v % 4))=some (.str (za1 [a,b,c,d] (v % 4))):=ziB (L:=[a,b,c,d]) rfl (Nat.zero_lt_succ _) (Nat.le_of_ble_eq_true rfl)
theorem zww {v:Int}:zap (.lst (zcD.map .str)) (.int (v % 16))=some (.str (za1 zcD (v % 16))):=ziB rfl (by decide) (by decide)
theorem zqK {v:Int}:zap (.lst (OPS.map .str)) (.int (v % 12))=some (.str (za1 OPS (v % 12))):=ziB rfl (by decide) (by decide)
theorem zrM {a b:D} {i:Int} (h:0≤i∧i < 2):zap (.lst [a,b]) (.int i)=some (if i=0 then a else b):=by
 have:i=0∨i=1:=by lia
 rcases this with rfl | rfl <;> rfl
theorem zyj {a b:Int} {i:Int} (h:decide (i % 6 < 2)=true):zap (.lst [.int a,.int b]) (.int (i % 6))=some (.int (if i % 6=0 then a else b)):=by
 rw [zrM ⟨Int.emod_nonneg _ (by decide),of_decide_eq_true h⟩];split <;> rfl
theorem zwx {a b:Int} {i:Int}:zap (.lst [.int a,.int b]) (.int (i % 2))=some (.int (if i % 2=0 then a else b)):=by
 rw [zrM ⟨Int.emod_nonneg _ (by decide),Int.emod_lt_of_pos _ (by decide)⟩];split <;> rfl
theorem zyk {a b:D} {i:Int}:zap (.lst [a,b]) (.int (i % 2))=some (if i % 2=0 then a else b):=zrM ⟨Int.emod_nonneg _ (by decide),Int.emod_lt_of_pos _ (by decide)⟩
noncomputable def zuK (μ:Mem) (k:Nat) (l:List Int) (lo hi:Int):RE:=
 bif decide (nx l % 6 < 2) then .ok (.d (.int (if nx l % 6=0 then lo else hi))) (μ.set k (zaL (rest l)))
 else bif decide (nx l % 6=2) then (bif decide (nx (rest l) % 3=2) then .ok (.d (.int (if nx (rest (rest l)) % 2=0 then lo - 1 else hi+1))) (μ.set k (zaL (rest (rest (rest l))))) else .ok (.d (.int 0)) (μ.set k (zaL (rest (rest l)))))
 else .ok (.d (.int (lo+(nx (rest l) * 1048576+nx (rest (rest l)) * 1024+nx (rest (rest (rest l)))) % (hi - lo+1)))) (μ.set k (zaL (rest (rest (rest (rest l))))))
theorem zrN {μ:Mem} {k:Nat} {l:List Int} (hk:k < μ.length) (hl:za8 l) (lo hi:Int) (hlh:0 < hi - lo+1):zcI [.ref k,.d (.int lo),.d (.int hi)] (μ.set k (zaL l))=zuK μ k l lo hi:=by
 refine zbh (zqh _ _ _) ?_
 unfold zl9 zuK
 have h16:(0:Int) < 1048576:=by decide
 refine zau (zah (zas (zaf (zad rfl) zag) rfl (zbo (by with_reducible assumption) (by with_reducible assumption))) zab zaa zaa (zb2 (by decide))) ?_
 refine zf3 (zak (zah (zad rfl) zab zaa zaa zft)) ?_ ?_
 intro _
 refine zay (zah (zbA (zaf (zad rfl) (zaf (zad rfl) zag)) rfl) (zad rfl) zaa zaa (zyj (by assumption))) ?_
 exact zdj rfl
 intro _
 refine zav ?_
 refine zf3 (zak (zah (zad rfl) zab zaa zaa zdN)) ?_ ?_
 intro _
 refine zeo ?_
 refine zf3 (zak (zah (zah (zas (zaf (zad rfl) zag) rfl (zbo (by with_reducible assumption) (zao (by with_reducible assumption)))) zab zaa zaa (zb2 (by decide))) zab zaa zaa zdN)) ?_ ?_
 intro _
 refine zay (zah (zbA (zaf (zah (zad rfl) zab zaa zaa zfg) (zaf (zah (zad rfl) zab zaa zaa zaZ) zag)) rfl) (zah (zas (zaf (zad rfl) zag) rfl (zbo (by with_reducible assumption) (zao (zao (by with_reducible assumption))))) zab zaa zaa (zb2 (by decide))) zaa zaa zwx) ?_
 exact zdj rfl
 intro _
 refine zay zab ?_
 exact zdj rfl
 intro _
 refine zav ?_
 refine zaM (S:=zaq _) ?_
 refine zay (zah (zad rfl) (zah (zah (zah (zah (zas (zaf (zad rfl) zag) rfl (zbo (by with_reducible assumption) (zao (by with_reducible assumption)))) (zah zab zab zaa zaa zwp) zaa zaa (zfs (by decide))) (zah (zas (zaf (zad rfl) zag) rfl (zbo (by with_reducible assumption) (zao (zao (by with_reducible assumption))))) zab zaa zaa (zfs (by decide))) zaa zaa zaZ) (zas (zaf (zad rfl) zag) rfl (zbo (by with_reducible assumption) (zao (zao (zao (by with_reducible assumption)))))) zaa zaa zaZ) (zah (zah (zad rfl) (zad rfl) zaa zaa zfg) zab zaa zaa zaZ) zaa zaa (zb2 (by with_reducible assumption))) zaa zaa zaZ) ?_
 exact zdj rfl
noncomputable def zjW (l:List Int) (lo hi:Int):Int:=
 bif decide (nx l % 6 < 2) then (if nx l % 6=0 then lo else hi)
 else bif decide (nx l % 6=2) then (bif decide (nx (rest l) % 3=2) then (if nx (rest (rest l)) % 2=0 then lo - 1 else hi+1) else 0)
 else lo+(nx (rest l) * 1048576+nx (rest (rest l)) * 1024+nx (rest (rest (rest l)))) % (hi - lo+1)
noncomputable def zgz (l:List Int):List Int:=
 bif decide (nx l % 6 < 2) then rest l
 else bif decide (nx l % 6=2) then (bif decide (nx (rest l) % 3=2) then rest (rest (rest l)) else rest (rest l))
 else rest (rest (rest (rest l)))
theorem zeh {l:List Int} (hl:za8 l):za8 (zgz l):=by
 unfold zgz
 cases decide (nx l % 6 < 2)
 ·cases decide (nx l % 6=2)
  ·exact zao (zao (zao (zao hl)))
  ·cases decide (nx (rest l) % 3=2)
   ·exact zao (zao hl)
   ·exact zao (zao (zao hl))
 ·exact zao hl
theorem zfH {μ:Mem} {k:Nat} {l:List Int} (hk:k < μ.length) (hl:za8 l) (lo hi:Int) (hlh:0 < hi - lo+1):zcI [.ref k,.d (.int lo),.d (.int hi)] (μ.set k (zaL l)) = .ok (.d (.int (zjW l lo hi))) (μ.set k (zaL (zgz l))):=by
 rw [zrN hk hl lo hi hlh]
 unfold zuK zjW zgz
 cases decide (nx l % 6 < 2)
 ·cases decide (nx l % 6=2)
  ·rfl
  ·cases decide (nx (rest l) % 3=2) <;> rfl
 ·rfl
inductive Rw where
 | reg (n:List Nat) (a b c:Int)
 | br (n cond:List Nat) (b c:Int)
noncomputable def Rw.d:Rw→D
 | .reg n a b c=>za9 n (.int a) (.int b) (.int c)
 | .br n cond b c=>za9 n (.str cond) (.int b) (.int c)
noncomputable def zfA:List (List Nat):=OPS ++ OPS.map (· ++ [73]) ++ zeN ++ [zcb,zbN]
noncomputable def Rw.form:Rw→Prop
 | .reg n _ _ _=>n∈zfA
 | .br n cond _ _=>n∈BRS∧cond∈zcD
noncomputable def zrO (μ:Mem) (k:Nat) (l:List Int):RE:=
 let kd:=nx l % 9
 let a:=nx (rest l) % 16
 let b:=nx (rest (rest l)) % 16
 let cd:=za1 zcD (nx (rest (rest (rest l))) % 16)
 let l4:=rest (rest (rest (rest l)))
 let l5:=rest l4
 let l6:=rest l5
 let nm:=za1 OPS (nx l4 % 12)
 bif decide (kd < 2) then .ok (.d (za9 nm (.int a) (.int (bif decide (nm=[77,79,86]) then 0 else b)) (.int (nx l5 % 17)))) (μ.set k (zaL l6))
 else bif decide (kd < 4) then .ok (.d (za9 (nm ++ [73]) (.int a) (.int (bif decide (nm=[77,79,86]) then 0 else b)) (.int (zjW l5 (-65536) 65535)))) (μ.set k (zaL (zgz l5)))
 else bif decide (kd=4) then .ok (.d (if nx (zgz l4) % 2=0 then za9 zcb (.int a) (.int 0) (.int (zjW l4 0 65535)) else za9 zbN (.int a) (.int 0) (.int 0))) (μ.set k (zaL (rest (zgz l4))))
 else bif decide (kd=5) then .ok (.d (za9 (za1 zeN (nx l4 % 4)) (.int a) (.int b) (.int (zjW l5 (-524288) 524287)))) (μ.set k (zaL (zgz l5)))
 else bif decide (kd=6) then .ok (.d (za9 (za1 [sB,sBL] (nx l4 % 2)) (.str cd) (.int (zjW l5 (-8388608) 8388607)) (.int 0))) (μ.set k (zaL (zgz l5)))
 else bif decide (kd=7) then .ok (.d (za9 (za1 [sBR,zdi] (nx l4 % 2)) (.str cd) (.int a) (.int 0))) (μ.set k (zaL l5))
 else .ok (.d (za9 zcg (.str cd) (.int (zjW l4 0 15)) (.int (zjW (zgz l4) 0 65535)))) (μ.set k (zaL (zgz (zgz l4))))
theorem zwy {v:Int}:(za1 OPS (v % 12)).length≤3:=by
 have:∀ x∈OPS,x.length≤3:=by decide
 exact this _ (zeP rfl (by decide))
theorem zqp {μ:Mem} {k:Nat} {l:List Int} (hk:k < μ.length) (hl:za8 l):zeU [.ref k] (μ.set k (zaL l))=zrO μ k l:=by
 refine zbh (zoQ _) ?_
 unfold zk0 zrO
 dsimp only
 refine zau (zah (zas (zaf (zad rfl) zag) rfl (zbo (by with_reducible assumption) (by with_reducible assumption))) zab zaa zaa (zb2 (by decide))) ?_
 refine zau (zah (zas (zaf (zad rfl) zag) rfl (zbo (by with_reducible assumption) (zao (by with_reducible assumption)))) zab zaa zaa (zb2 (by decide))) ?_
 refine zau (zah (zas (zaf (zad rfl) zag) rfl (zbo (by with_reducible assumption) (zao (zao (by with_reducible assumption))))) zab zaa zaa (zb2 (by decide))) ?_
 refine zau (zah (zas zag rfl (zqo _)) (zah (zas (zaf (zad rfl) zag) rfl (zbo (by with_reducible assumption) (zao (zao (zao (by with_reducible assumption)))))) zab zaa zaa (zb2 (by decide))) zaa zaa zww) ?_
 refine zf3 (zak (zah (zad rfl) zab zaa zaa zft)) ?_ ?_
 intro _
 refine zbb ?_
 refine zau (zah (zas zag rfl (zep _)) (zah (zas (zaf (zad rfl) zag) rfl (zbo (by with_reducible assumption) (zao (zao (zao (zao (by with_reducible assumption))))))) zab zaa zaa (zb2 (by decide))) zaa zaa zqK) ?_
 refine zay (za2 (zaf (zad rfl) (zaf (zad rfl) (zaf (zjQ (zak (zah (zad rfl) zab zaa zaa zaT)) (fun x_=>zab) (fun x_=>zad rfl)) (zaf (zah (zas (zaf (zad rfl) zag) rfl (zbo (by with_reducible assumption) (zao (zao (zao (zao (zao (by with_reducible assumption)))))))) zab zaa zaa (zb2 (by decide))) zag)))) rfl) ?_
 exact zdj rfl
 intro _
 refine zav ?_
 refine zf3 (zak (zah (zad rfl) zab zaa zaa zft)) ?_ ?_
 intro _
 refine zbb ?_
 refine zau (zah (zas zag rfl (zep _)) (zah (zas (zaf (zad rfl) zag) rfl (zbo (by with_reducible assumption) (zao (zao (zao (zao (by with_reducible assumption))))))) zab zaa zaa (zb2 (by decide))) zaa zaa zqK) ?_
 refine zay (za2 (zaf (zah (zad rfl) zab zaa zaa (zbg zwy (Nat.le_refl _) (by decide))) (zaf (zad rfl) (zaf (zjQ (zak (zah (zad rfl) zab zaa zaa zaT)) (fun x_=>zab) (fun x_=>zad rfl)) (zaf (zas (zaf (zad rfl) (zaf (zdz zab) (zaf zab zag))) rfl (zfH (by with_reducible assumption) (zao (zao (zao (zao (zao (by with_reducible assumption)))))) _ _ (by decide))) zag)))) rfl) ?_
 exact zdj rfl
 intro _
 refine zav ?_
 refine zf3 (zak (zah (zad rfl) zab zaa zaa zdN)) ?_ ?_
 intro _
 refine zay (zah (zbA (zaf (za2 (zaf zab (zaf (zad rfl) (zaf zab (zaf (zas (zaf (zad rfl) (zaf zab (zaf zab zag))) rfl (zfH (by with_reducible assumption) (zao (zao (zao (zao (by with_reducible assumption))))) _ _ (by decide))) zag)))) rfl) (zaf (za2 (zaf zab (zaf (zad rfl) (zaf zab (zaf zab zag)))) rfl) zag)) rfl) (zah (zas (zaf (zad rfl) zag) rfl (zbo (by with_reducible assumption) (zeh (zao (zao (zao (zao (by with_reducible assumption)))))))) zab zaa zaa (zb2 (by decide))) zaa zaa zyk) ?_
 exact zdj rfl
 intro _
 refine zav ?_
 refine zf3 (zak (zah (zad rfl) zab zaa zaa zdN)) ?_ ?_
 intro _
 refine zay (za2 (zaf (zah (zbA (zaf zab (zaf zab (zaf zab (zaf zab zag)))) rfl) (zah (zas (zaf (zad rfl) zag) rfl (zbo (by with_reducible assumption) (zao (zao (zao (zao (by with_reducible assumption))))))) zab zaa zaa (zb2 (by decide))) zaa zaa zwv) (zaf (zad rfl) (zaf (zad rfl) (zaf (zas (zaf (zad rfl) (zaf (zdz (zah zab zab zaa zaa zkj)) (zaf (zah (zah zab zab zaa zaa zkj) zab zaa zaa zfg) zag))) rfl (zfH (by with_reducible assumption) (zao (zao (zao (zao (zao (by with_reducible assumption)))))) _ _ (by decide))) zag)))) rfl) ?_
 exact zdj rfl
 intro _
 refine zav ?_
 refine zf3 (zak (zah (zad rfl) zab zaa zaa zdN)) ?_ ?_
 intro _
 refine zay (za2 (zaf (zah (zbA (zaf zab (zaf zab zag)) rfl) (zah (zas (zaf (zad rfl) zag) rfl (zbo (by with_reducible assumption) (zao (zao (zao (zao (by with_reducible assumption))))))) zab zaa zaa (zb2 (by decide))) zaa zaa zqJ) (zaf (zad rfl) (zaf (zas (zaf (zad rfl) (zaf (zdz (zah zab zab zaa zaa zkk)) (zaf (zah (zah zab zab zaa zaa zkk) zab zaa zaa zfg) zag))) rfl (zfH (by with_reducible assumption) (zao (zao (zao (zao (zao (by with_reducible assumption)))))) _ _ (by decide))) (zaf zab zag)))) rfl) ?_
 exact zdj rfl
 intro _
 refine zav ?_
 refine zf3 (zak (zah (zad rfl) zab zaa zaa zdN)) ?_ ?_
 intro _
 refine zay (za2 (zaf (zah (zbA (zaf zab (zaf zab zag)) rfl) (zah (zas (zaf (zad rfl) zag) rfl (zbo (by with_reducible assumption) (zao (zao (zao (zao (by with_reducible assumption))))))) zab zaa zaa (zb2 (by decide))) zaa zaa zqJ) (zaf (zad rfl) (zaf (zad rfl) (zaf zab zag)))) rfl) ?_
 exact zdj rfl
 intro _
 refine zav ?_
 refine zaM (S:=zaq _) ?_
 refine zay (za2 (zaf zab (zaf (zad rfl) (zaf (zas (zaf (zad rfl) (zaf zab (zaf zab zag))) rfl (zfH (by with_reducible assumption) (zao (zao (zao (zao (by with_reducible assumption))))) _ _ (by decide))) (zaf (zas (zaf (zad rfl) (zaf zab (zaf zab zag))) rfl (zfH (by with_reducible assumption) (zeh (zao (zao (zao (zao (by with_reducible assumption)))))) _ _ (by decide))) zag)))) rfl) ?_
 exact zdj rfl
theorem zrP {μ:Mem} {k:Nat} {l:List Int} (hk:k < μ.length) (hl:za8 l):∃ r l',Rw.form r∧za8 l'∧zeU [.ref k] (μ.set k (zaL l)) = .ok (.d r.d) (μ.set k (zaL l')):=by
 rw [zqp hk hl]
 unfold zrO
 dsimp only
 have h4:za8 (rest (rest (rest (rest l)))):=zao (zao (zao (zao hl)))
 generalize rest (rest (rest (rest l)))=l4 at *
 have h5:=zao h4
 have hn:za1 OPS (nx l4 % 12)∈OPS:=zeP rfl (by decide)
 have hc:za1 zcD (nx (rest (rest (rest l))) % 16)∈zcD:=zeP rfl (by decide)
 cases decide (nx l % 9 < 2)
 rotate_left
 ·exact ⟨.reg _ _ _ _,_,List.mem_append_left _ (List.mem_append_left _ (List.mem_append_left _ hn)),zao h5,rfl⟩
 cases decide (nx l % 9 < 4)
 rotate_left
 ·exact ⟨.reg _ _ _ _,_,List.mem_append_left _ (List.mem_append_left _ (List.mem_append_right _ (List.mem_map_of_mem hn))),zeh h5,rfl⟩
 cases decide (nx l % 9=4)
 rotate_left
 ·by_cases q:nx (zgz l4) % 2=0
  ·rw [cond_true,if_pos q];exact ⟨.reg zcb _ _ _,_,by show _∈zfA;decide,zao (zeh h4),rfl⟩
  ·rw [cond_true,if_neg q];exact ⟨.reg zbN _ _ _,_,by show _∈zfA;decide,zao (zeh h4),rfl⟩
 cases decide (nx l % 9=5)
 rotate_left
 ·exact ⟨.reg _ _ _ _,_,List.mem_append_left _ (List.mem_append_right _ (zeP (n:=4) rfl (by decide))),zeh h5,rfl⟩
 have hb:∀ x∈[sB,sBL],x∈BRS:=by decide
 have hb2:∀ x∈[sBR,zdi],x∈BRS:=by decide
 cases decide (nx l % 9=6)
 rotate_left
 ·exact ⟨.br _ _ _ _,_,⟨hb _ (zeP (n:=2) rfl (by decide)),hc⟩,zeh h5,rfl⟩
 cases decide (nx l % 9=7)
 ·exact ⟨.br zcg _ _ _,_,⟨by decide,hc⟩,zeh (zeh h4),rfl⟩
 ·exact ⟨.br _ _ _ _,_,⟨hb2 _ (zeP (n:=2) rfl (by decide)),hc⟩,h5,rfl⟩
noncomputable def rng (lo v hi:Int):Bool:=decide (lo≤v) && decide (v < hi)
noncomputable def zf8 (n:List Nat) (b c:Int):Bool:=
 bif decide (n∈[sB,sBL]) then rng (-8388608) b 8388608 && decide (c=0)
 else bif decide (n∈[sBR,zdi]) then rng 0 b 16 && (decide (c=0) && (decide (n=sBR) || !decide (b=12)))
 else rng 0 b 16 && rng 0 c 65536
theorem zyl {n:List Nat} (hb:n∈BRS):decide (n∈[sB,sBL])=false→decide (n∈[sBR,zdi])=false→decide (n=zcg)=true:=by revert n;decide
set_option tactic.hygienic true in
theorem zpj (n:List Nat) (cond:D) (b c:Int) (hb:n∈BRS) (μ:Mem):zdw [.d (.tup [.str n,cond,.int b,.int c])] μ = .ok (.d (.bool (zf8 n b c))) μ:=by
 refine zbh (zjg _) ?_
 unfold zhw
 refine zb7 (zad rfl) rfl ?_
 refine zaD (zak (zah (zad rfl) (za2 (zaf zab (zaf zab zag)) rfl) zaa zaa (zbX (zal (zal zaO))))) ?_ ?_
 intro _
 refine zay (r_B (zff (r_B (zeL (zdz (zah zab zab zaa zaa zkk)) (zad rfl) zfu (zah zab zab zaa zaa zkk) zgI)) (fun x_=>zgu (zah (zad rfl) zab zaa zaa zdN)))) ?_
 refine zdh ?_
 rotate_left
 intro _
 refine zav ?_
 refine zaD (zak (zah (zad rfl) (za2 (zaf zab (zaf zab zag)) rfl) zaa zaa (zbX (zal (zal zaO))))) ?_ ?_
 intro _
 refine zay (r_B (zff (r_B (zeL zab (zad rfl) zfu zab zgI)) (fun x_=>zff (zah (zad rfl) zab zaa zaa zdN) (fun x_=>zgu (r_B (zrB (zah (zad rfl) zab zaa zaa zaT) (fun x_=>zs0 (zah (zad rfl) zab zaa zaa zhV)))))))) ?_
 refine zdh ?_
 rotate_left
 intro _
 refine zav ?_
 refine zaD (zak (zah (zad rfl) zab zaa zaa zaT)) ?_ ?_
 intro _
 refine zay (r_B (zff (r_B (zeL zab (zad rfl) zfu zab zgI)) (fun x_=>zgu (r_B (zeL zab (zad rfl) zfu zab zgI))))) ?_
 refine zdh ?_
 rotate_left
 intro _
 refine zav ?_
 ·rename_i h
  rw [zyl hb (by assumption) (by assumption)] at h;exact Bool.noConfusion h
 all_goals simp only [zf8,rng, *,cond_true,cond_false]
noncomputable abbrev zhD:List (List Nat):=[[76,68,82],[76,68,66],[83,84,82],[83,84,66]]
noncomputable def zgU (n:List Nat) (a b c:Int):Bool:=
 bif !rng 0 a 16 || (!rng 0 b 16 || (decide (n∈[zhy,zf4,zcb,zbN]) && !decide (b=0))) then false
 else bif decide (n∈zhD) then rng (-524288) c 524288
 else bif decide (n∈[zbN,zcb]) then rng 0 c (bif decide (n=zbN) then 1 else 65536)
 else bif decide (n∈OPS) then rng 0 c 16 else rng (-65536) c 65536
theorem zpk (n:List Nat) (a b c:Int) (h1:decide (n∈[sB,sBL])=false) (h2:decide (n∈[sBR,zdi])=false) (h3:decide (n=zcg)=false) (μ:Mem):zdw [.d (.tup [.str n,.int a,.int b,.int c])] μ = .ok (.d (.bool (zgU n a b c))) μ:=by
 refine zbh (zjg _) ?_
 unfold zhw
 refine zb7 (zad rfl) rfl ?_
 refine zaD (zak (zah (zad rfl) (za2 (zaf zab (zaf zab zag)) rfl) zaa zaa (zbX (zal (zal zaO))))) ?_ ?_
 intro h_
 exact Bool.noConfusion (Eq.trans (Eq.symm h_) (by with_reducible assumption):true=false)
 intro _
 refine zav ?_
 refine zaD (zak (zah (zad rfl) (za2 (zaf zab (zaf zab zag)) rfl) zaa zaa (zbX (zal (zal zaO))))) ?_ ?_
 intro h_
 exact Bool.noConfusion (Eq.trans (Eq.symm h_) (by with_reducible assumption):true=false)
 intro _
 refine zav ?_
 refine zaD (zak (zah (zad rfl) zab zaa zaa zaT)) ?_ ?_
 intro h_
 exact Bool.noConfusion (Eq.trans (Eq.symm h_) (by with_reducible assumption):true=false)
 intro _
 refine zav ?_
 refine zaD (zbR (zdo (zeL zab (zad rfl) zfu zab zgI)) (fun x_=>zbR (zdo (zeL zab (zad rfl) zfu zab zgI)) (fun x_=>zbI (ze1 (zak (zah (zad rfl) (za2 (zaf zab (zaf zab (zaf zab (zaf zab zag)))) rfl) zaa zaa (zbX (zal (zal (zal (zal zaO))))))) (fun x_=>zc4 (zak (zah (zad rfl) zab zaa zaa zhV))))))) ?_ ?_
 intro _
 refine zay zab ?_
 refine zdh ?_
 rotate_left
 intro _
 refine zav ?_
 refine zaD (zak (zah (zad rfl) (za2 (zaf zab (zaf zab (zaf zab (zaf zab zag)))) rfl) zaa zaa (zbX (zal (zal (zal (zal zaO))))))) ?_ ?_
 intro _
 refine zay (r_B (zeL (zdz (zah zab zab zaa zaa zkj)) (zad rfl) zfu (zah zab zab zaa zaa zkj) zgI)) ?_
 refine zdh ?_
 rotate_left
 intro _
 refine zav ?_
 refine zaD (zak (zah (zad rfl) (za2 (zaf zab (zaf zab zag)) rfl) zaa zaa (zbX (zal (zal zaO))))) ?_ ?_
 intro _
 refine zay (r_B (zeL zab (zad rfl) zfu (zjQ (zak (zah (zad rfl) zab zaa zaa zaT)) (fun x_=>zab) (fun x_=>zab)) zgI)) ?_
 refine zdh ?_
 rotate_left
 intro _
 refine zav ?_
 refine zaM (S:=zaq _) ?_
 refine zeo ?_
 refine zaD (zak (zah (zad rfl) (zas zag rfl (zep _)) zaa zaa (zc7 zaX))) ?_ ?_
 intro _
 refine zay (r_B (zeL zab (zad rfl) zfu zab zgI)) ?_
 refine zdh ?_
 rotate_left
 intro _
 refine zay (r_B (zeL (zdz zab) (zad rfl) zfu zab zgI)) ?_
 refine zdh ?_
 rotate_left
 all_goals simp only [zgU,rng, *,cond_true,cond_false]
noncomputable def zgL:Option (List Nat)→D
 | none=>.none
 | some m=>.str m
noncomputable def ziC (n:List Nat) (a b c:Int) (long:Bool):List (List Nat):=
 [n,[82] ++ zax a,[44],[91]] ++ (bif long then [[82] ++ zax b,[44],zax c] else [[82] ++ zax b]) ++ [[93]]
noncomputable def ziD (n:List Nat) (c:Int) (l:List (List Nat)):List (List Nat):=bif !decide (n=zbN) then l ++ [[44],(bif decide (n∈OPS) then [82] else []) ++ zax c] else l
noncomputable def zf9 (n:List Nat) (a b c:Int):List (List Nat):=
 bif !decide (n∈[zhy,zf4,zcb,zbN]) then ziD n c ([n,[82] ++ zax a] ++ [[44],[82] ++ zax b]) else ziD n c [n,[82] ++ zax a]
noncomputable def zdk (n cond:List Nat) (b c:Int) (mark:Option (List Nat)):List (List Nat):=
 bif decide (n=zcg) then [n,cond,[44],zax b,[44],zax c]
 else bif decide (n∈[sB,sBL]) then [n,cond,[44],mark.getD (zax b)]
 else [n,cond,[44],[82] ++ zax b]
theorem zwz {n:List Nat} (hb:n∈BRS):decide (n∈zhD)=false∧(decide (n=zcg)=false→decide (n∈[sB,sBL])=false→decide (n∈[sBR,zdi])=true):=by revert n;decide
set_option tactic.hygienic true in
theorem zpl {μ:Mem} (v:V) (n cond:List Nat) (b c:Int) (mark:Option (List Nat)) (hb:n∈BRS) (fb:ze6 b=true) (lb:(zax b).length≤100) (fc:ze6 c=true) (lc:(zax c).length≤100) :
  zct [v,.d (za9 n (.str cond) (.int b) (.int c)),.d (zgL mark)] μ = .ok (.d (.lst ((zdk n cond b c mark).map .str))) μ:=by
 refine zbh (zel _ _ _) ?_
 obtain ⟨h1,h2⟩:=zwz hb
 unfold zdS
 cases mark <;> unfold zgL <;> dsimp only
 ·refine zb7 (zad rfl) rfl ?_
  refine zaD (zak (zah (zad rfl) (za2 (zaf zab (zaf zab (zaf zab (zaf zab zag)))) rfl) zaa zaa (zbX (zal (zal (zal (zal zaO))))))) ?_ ?_
  intro h_
  exact Bool.noConfusion (Eq.trans (Eq.symm h_) (by with_reducible assumption):true=false)
  intro _
  refine zav ?_
  refine zaD (zak (zah (zad rfl) zab zaa zaa zaT)) ?_ ?_
  intro _
  refine zay (zbA (zaf (zad rfl) (zaf (zad rfl) (zaf zab (zaf (zaF (zaf (zad rfl) zag) (zan zaa zaA) (zca (by with_reducible assumption))) (zaf zab (zaf (zaF (zaf (zad rfl) zag) (zan zaa zaA) (zca (by with_reducible assumption))) zag)))))) rfl) ?_
  refine zcv ?_
  rotate_left
  intro _
  refine zav ?_
  refine zaD (zak (zah (zad rfl) (za2 (zaf zab (zaf zab zag)) rfl) zaa zaa (zbX (zal (zal zaO))))) ?_ ?_
  intro _
  refine zay (zbA (zaf (zad rfl) (zaf (zad rfl) (zaf zab (zaf (zjO (zak (zah (zad rfl) zab zaa zaa zzi)) rfl (zaF (zaf (zad rfl) zag) (zan zaa zaA) (zca (by with_reducible assumption)))) zag)))) rfl) ?_
  refine zcv ?_
  rotate_left
  intro _
  refine zav ?_
  refine zaD (zak (zah (zad rfl) (za2 (zaf zab (zaf zab zag)) rfl) zaa zaa (zbX (zal (zal zaO))))) ?_ ?_
  intro _
  refine zay (zbA (zaf (zad rfl) (zaf (zad rfl) (zaf zab (zaf (zah zab (zaF (zaf (zad rfl) zag) (zan zaa zaA) (zca (by with_reducible assumption))) zaa zaa (zbg (Nat.le_refl _) (by with_reducible assumption) (by decide))) zag)))) rfl) ?_
  refine zcv ?_
  rotate_left
  intro _
  refine zav ?_
  all_goals first
   | (rename_i h;rw [h2 (by assumption) (by assumption)] at h;exact Bool.noConfusion h)
   | (simp only [zdk, *,cond_true,cond_false];rfl)
 ·refine zb7 (zad rfl) rfl ?_
  refine zaD (zak (zah (zad rfl) (za2 (zaf zab (zaf zab (zaf zab (zaf zab zag)))) rfl) zaa zaa (zbX (zal (zal (zal (zal zaO))))))) ?_ ?_
  intro h_
  exact Bool.noConfusion (Eq.trans (Eq.symm h_) (by with_reducible assumption):true=false)
  intro _
  refine zav ?_
  refine zaD (zak (zah (zad rfl) zab zaa zaa zaT)) ?_ ?_
  intro _
  refine zay (zbA (zaf (zad rfl) (zaf (zad rfl) (zaf zab (zaf (zaF (zaf (zad rfl) zag) (zan zaa zaA) (zca (by with_reducible assumption))) (zaf zab (zaf (zaF (zaf (zad rfl) zag) (zan zaa zaA) (zca (by with_reducible assumption))) zag)))))) rfl) ?_
  refine zcv ?_
  rotate_left
  intro _
  refine zav ?_
  refine zaD (zak (zah (zad rfl) (za2 (zaf zab (zaf zab zag)) rfl) zaa zaa (zbX (zal (zal zaO))))) ?_ ?_
  intro _
  refine zay (zbA (zaf (zad rfl) (zaf (zad rfl) (zaf zab (zaf (zjP (zak (zah (zad rfl) zab zaa zaa zzj)) rfl (zad rfl)) zag)))) rfl) ?_
  refine zcv ?_
  rotate_left
  intro _
  refine zav ?_
  refine zaD (zak (zah (zad rfl) (za2 (zaf zab (zaf zab zag)) rfl) zaa zaa (zbX (zal (zal zaO))))) ?_ ?_
  intro _
  refine zay (zbA (zaf (zad rfl) (zaf (zad rfl) (zaf zab (zaf (zah zab (zaF (zaf (zad rfl) zag) (zan zaa zaA) (zca (by with_reducible assumption))) zaa zaa (zbg (Nat.le_refl _) (by with_reducible assumption) (by decide))) zag)))) rfl) ?_
  refine zcv ?_
  rotate_left
  intro _
  refine zav ?_
  all_goals first
   | (rename_i h;rw [h2 (by assumption) (by assumption)] at h;exact Bool.noConfusion h)
   | (simp only [zdk, *,cond_true,cond_false];rfl)
theorem zpm {μ:Mem} {k:Nat} {l:List Int} (hk:k < μ.length) (hl:za8 l) (n:List Nat) (a b c:Int) (x:D) (hm:decide (n∈zhD)=true) (h3:zhC a b c) :
  ∃ l' long,za8 l'∧(c=0∨long=true)∧zct [.ref k,.d (za9 n (.int a) (.int b) (.int c)),.d x] (μ.set k (zaL l)) = .ok (.d (.lst ((ziC n a b c long).map .str))) (μ.set k (zaL l')):=by
 obtain ⟨⟨fa,la⟩,⟨fb,lb⟩,fc,lc⟩:=h3
 cases hc:decide (c=0) with
 | false=>
  refine ⟨l,true,hl,.inr rfl,zbh (zel _ _ _) ?_⟩
  have hc':(!decide (c=0))=true:=by rw [hc];rfl
  unfold zdS
  refine zb7 (zad rfl) rfl ?_
  refine zaD (zak (zah (zad rfl) (za2 (zaf zab (zaf zab (zaf zab (zaf zab zag)))) rfl) zaa zaa (zbX (zal (zal (zal (zal zaO))))))) ?_ ?_
  intro _
  refine zbb ?_
  refine zau (zjO (zvo (zak (zah (zad rfl) zab zaa zaa zhV)) (by with_reducible assumption)) rfl (zbA (zaf (zah zab (zaF (zaf (zad rfl) zag) (zan zaa zaA) (zca (by with_reducible assumption))) zaa zaa (zbg (Nat.le_refl _) (by with_reducible assumption) (by decide))) (zaf zab (zaf (zaF (zaf (zad rfl) zag) (zan zaa zaA) (zca (by with_reducible assumption))) zag))) rfl)) ?_
  refine zay (zah (zah (zbA (zaf (zad rfl) (zaf (zah zab (zaF (zaf (zad rfl) zag) (zan zaa zaA) (zca (by with_reducible assumption))) zaa zaa (zbg (Nat.le_refl _) (by with_reducible assumption) (by decide))) (zaf zab (zaf zab zag)))) rfl) (zad rfl) zaa zaa (zgv (Nat.le_refl _) (Nat.le_refl _) (of_decide_eq_true rfl))) (zbA (zaf zab zag) rfl) zaa zaa (zgv (zbJ (Nat.le_refl _) (Nat.le_refl _)) (Nat.le_refl _) (of_decide_eq_true rfl))) ?_
  refine zcv ?_
  rotate_left
  intro h_
  exact Bool.noConfusion (Eq.trans (Eq.symm h_) (by with_reducible assumption):false=true)
  all_goals rfl
 | true=>
  have hc':(!decide (c=0))=false:=by rw [hc];rfl
  cases hx:decide (nx l % 2=1) with
  | true=>
   refine ⟨rest l,true,zao hl,.inl (of_decide_eq_true hc),zbh (zel _ _ _) ?_⟩
   unfold zdS
   refine zb7 (zad rfl) rfl ?_
   refine zaD (zak (zah (zad rfl) (za2 (zaf zab (zaf zab (zaf zab (zaf zab zag)))) rfl) zaa zaa (zbX (zal (zal (zal (zal zaO))))))) ?_ ?_
   intro _
   refine zbb ?_
   refine zau (zjO (zn5 (zak (zah (zad rfl) zab zaa zaa zhV)) (by with_reducible assumption) (zbI (zak (zah (zah (zas (zaf (zad rfl) zag) rfl (zbo (by with_reducible assumption) (by with_reducible assumption))) zab zaa zaa (zb2 (by decide))) zab zaa zaa zdN)))) (by with_reducible assumption) (zbA (zaf (zah zab (zaF (zaf (zad rfl) zag) (zan zaa zaA) (zca (by with_reducible assumption))) zaa zaa (zbg (Nat.le_refl _) (by with_reducible assumption) (by decide))) (zaf zab (zaf (zaF (zaf (zad rfl) zag) (zan zaa zaA) (zca (by with_reducible assumption))) zag))) rfl)) ?_
   refine zay (zah (zah (zbA (zaf (zad rfl) (zaf (zah zab (zaF (zaf (zad rfl) zag) (zan zaa zaA) (zca (by with_reducible assumption))) zaa zaa (zbg (Nat.le_refl _) (by with_reducible assumption) (by decide))) (zaf zab (zaf zab zag)))) rfl) (zad rfl) zaa zaa (zgv (Nat.le_refl _) (Nat.le_refl _) (of_decide_eq_true rfl))) (zbA (zaf zab zag) rfl) zaa zaa (zgv (zbJ (Nat.le_refl _) (Nat.le_refl _)) (Nat.le_refl _) (of_decide_eq_true rfl))) ?_
   exact zdj rfl
   intro h_
   exact Bool.noConfusion (Eq.trans (Eq.symm h_) (by with_reducible assumption):false=true)
  | false=>
   refine ⟨rest l,false,zao hl,.inl (of_decide_eq_true hc),zbh (zel _ _ _) ?_⟩
   unfold zdS
   refine zb7 (zad rfl) rfl ?_
   refine zaD (zak (zah (zad rfl) (za2 (zaf zab (zaf zab (zaf zab (zaf zab zag)))) rfl) zaa zaa (zbX (zal (zal (zal (zal zaO))))))) ?_ ?_
   intro _
   refine zbb ?_
   refine zau (zjP (zn5 (zak (zah (zad rfl) zab zaa zaa zhV)) (by with_reducible assumption) (zbI (zak (zah (zah (zas (zaf (zad rfl) zag) rfl (zbo (by with_reducible assumption) (by with_reducible assumption))) zab zaa zaa (zb2 (by decide))) zab zaa zaa zdN)))) (by with_reducible assumption) (zbA (zaf (zah zab (zaF (zaf (zad rfl) zag) (zan zaa zaA) (zca (by with_reducible assumption))) zaa zaa (zbg (Nat.le_refl _) (by with_reducible assumption) (by decide))) zag) rfl)) ?_
   refine zay (zah (zah (zbA (zaf (zad rfl) (zaf (zah zab (zaF (zaf (zad rfl) zag) (zan zaa zaA) (zca (by with_reducible assumption))) zaa zaa (zbg (Nat.le_refl _) (by with_reducible assumption) (by decide))) (zaf zab (zaf zab zag)))) rfl) (zad rfl) zaa zaa (zgv (Nat.le_refl _) (Nat.le_refl _) (of_decide_eq_true rfl))) (zbA (zaf zab zag) rfl) zaa zaa (zgv (zbJ (Nat.le_refl _) (Nat.le_refl _)) (Nat.le_refl _) (of_decide_eq_true rfl))) ?_
   exact zdj rfl
   intro h_
   exact Bool.noConfusion (Eq.trans (Eq.symm h_) (by with_reducible assumption):false=true)
theorem zpn {μ:Mem} (v:V) (n:List Nat) (a b c:Int) (x:D) (h1:decide (n∈zhD)=false) (h2:decide (n=zcg)=false) (h4:decide (n∈[sB,sBL])=false) (h5:decide (n∈[sBR,zdi])=false) (h3:zhC a b c) :
  zct [v,.d (za9 n (.int a) (.int b) (.int c)),.d x] μ = .ok (.d (.lst ((zf9 n a b c).map .str))) μ:=by
 obtain ⟨⟨fa,la⟩,⟨fb,lb⟩,fc,lc⟩:=h3
 refine zhf (zel _ _ _) ?_
 unfold zdS
 refine zb7 (zad rfl) rfl ?_
 refine zaD (zak (zah (zad rfl) (za2 (zaf zab (zaf zab (zaf zab (zaf zab zag)))) rfl) zaa zaa (zbX (zal (zal (zal (zal zaO))))))) ?_ ?_
 intro h_
 exact Bool.noConfusion (Eq.trans (Eq.symm h_) (by with_reducible assumption):true=false)
 intro _
 refine zav ?_
 refine zaD (zak (zah (zad rfl) zab zaa zaa zaT)) ?_ ?_
 intro h_
 exact Bool.noConfusion (Eq.trans (Eq.symm h_) (by with_reducible assumption):true=false)
 intro _
 refine zav ?_
 refine zaD (zak (zah (zad rfl) (za2 (zaf zab (zaf zab zag)) rfl) zaa zaa (zbX (zal (zal zaO))))) ?_ ?_
 intro h_
 exact Bool.noConfusion (Eq.trans (Eq.symm h_) (by with_reducible assumption):true=false)
 intro _
 refine zav ?_
 refine zaD (zak (zah (zad rfl) (za2 (zaf zab (zaf zab zag)) rfl) zaa zaa (zbX (zal (zal zaO))))) ?_ ?_
 intro h_
 exact Bool.noConfusion (Eq.trans (Eq.symm h_) (by with_reducible assumption):true=false)
 intro _
 refine zav ?_
 refine zau (zdV (zaf (zad rfl) (zaf (zah zab (zaF (zaf (zad rfl) zag) (zan zaa zaA) (zca (by with_reducible assumption))) zaa zaa (zbg (Nat.le_refl _) (by with_reducible assumption) (by decide))) zag)) rfl rfl) ?_
 refine zaD (zak (zah (zad rfl) (za2 (zaf zab (zaf zab (zaf zab (zaf zab zag)))) rfl) zaa zaa (zrC (zal (zal (zal (zal zaO))))))) ?_ ?_
 intro _
 refine zmX rfl (zbA (zaf zab (zaf (zah zab (zaF (zaf (zad rfl) zag) (zan zaa zaA) (zca (by with_reducible assumption))) zaa zaa (zbg (Nat.le_refl _) (by with_reducible assumption) (by decide))) zag)) rfl) rfl (Nat.le_of_ble_eq_true rfl) ?_
 refine zaD (zak (zah (zad rfl) zab zaa zaa zcm)) ?_ ?_
 intro _
 refine zmX rfl (zbA (zaf zab (zaf (zah (zix (zak (zah (zad rfl) (zas zag rfl (zep _)) zaa zaa (zc7 zaX))) (fun x_=>zab) (fun x_=>zab)) (zaF (zaf (zad rfl) zag) (zan zaa zaA) (zca (by with_reducible assumption))) zaa zaa (zbg (zo9 (Nat.le_refl _) (Nat.le_refl _)) (by with_reducible assumption) (by decide))) zag)) rfl) rfl (Nat.le_of_ble_eq_true rfl) ?_
 refine zaM (S:=zaq _) ?_
 refine zay (zad rfl) ?_
 refine zgQ rfl ?_
 rotate_left
 intro _
 refine zav ?_
 refine zaM (S:=zaq _) ?_
 refine zay (zad rfl) ?_
 refine zgQ rfl ?_
 rotate_left
 intro _
 refine zav ?_
 refine zaD (zak (zah (zad rfl) zab zaa zaa zcm)) ?_ ?_
 intro _
 refine zmX rfl (zbA (zaf zab (zaf (zah (zix (zak (zah (zad rfl) (zas zag rfl (zep _)) zaa zaa (zc7 zaX))) (fun x_=>zab) (fun x_=>zab)) (zaF (zaf (zad rfl) zag) (zan zaa zaA) (zca (by with_reducible assumption))) zaa zaa (zbg (zo9 (Nat.le_refl _) (Nat.le_refl _)) (by with_reducible assumption) (by decide))) zag)) rfl) rfl (Nat.le_of_ble_eq_true rfl) ?_
 refine zaM (S:=zaq _) ?_
 refine zay (zad rfl) ?_
 refine zgQ rfl ?_
 rotate_left
 intro _
 refine zav ?_
 refine zaM (S:=zaq _) ?_
 refine zay (zad rfl) ?_
 refine zgQ rfl ?_
 rotate_left
 all_goals (simp only [zf9,ziD, *,cond_true,cond_false];rfl)
inductive zg4:D→Prop
 | reg (n:List Nat) (a b c:Int):n.length≤1000000→decide (n∈BRS)=false→zg4 (za9 n (.int a) (.int b) (.int c))
 | br (n cond:List Nat) (t last:Int):n∈BRS→zg4 (za9 n (.str cond) (.int t) (.int last))
 | aim (n cond lab:List Nat):(decide (n=sB) || decide (n=sBL))=true→zg4 (za9 n (.str cond) (.str lab) (.int 0))
noncomputable def PR.all {α:Type} (P:α→Prop):PR α→Prop
 | .ok a _=>P a
 | .err _ _=>True
theorem PR.all_bind {α β:Type} {Q:α→Prop} {P:β→Prop} {r:PR α} {g:α→Nat→PR β} (hr:r.all Q) (h:∀ a p,Q a→(g a p).all P):(r.bind g).all P:=by
 cases r with
 | ok a p=>exact h a p hr
 | err w p=>exact trivial
theorem PR.all_any {α:Type} (r:PR α):r.all fun x_=>True:=by cases r <;> exact trivial
theorem PR.all_then {α β:Type} {P:β→Prop} {r:PR α} {g:α→Nat→PR β} (h:∀ a p,(g a p).all P):(r.bind g).all P:=PR.all_bind (PR.all_any r) fun a p x_=>h a p
theorem PR.all_cond {α:Type} {P:α→Prop} {t:Bool} {x y:PR α} (h1:t=true→x.all P) (h2:t=false→y.all P):(bif t then x else y).all P:=by
 cases t
 ·exact h2 rfl
 ·exact h1 rfl
theorem zqL {n:List Nat} (h:(decide (n∈OPS) || !decide (zeB n=[]))=true):decide (n∈BRS)=false:=by
 apply decide_eq_false
 intro hb
 have:=(zkp hb).2.1
 unfold zrF at this
 rw [h,Bool.or_true] at this
 exact Bool.noConfusion this
noncomputable def TOk (d:D):Prop:=(∃ v,d = .int v)∨∃ s,d = .str s
theorem zuL {toks:List (List Nat)} (hs:zbZ toks) (p:Nat):(zdD toks p).all zg4:=by
 unfold zdD
 have hn:(zbn toks p).length≤1000000:=Nat.le_trans (zgR hs p).1 (by decide)
 generalize zbn toks p=n at *
 unfold zeC
 refine PR.all_cond (fun h1=>?_) (fun x_=>PR.all_cond (fun h2=>?_) (fun x_=>PR.all_cond (fun h3=>?_) (fun x_=>PR.all_cond (fun h4=>?_) (fun x_=>PR.all_cond (fun h5=>?_) (fun x_=>PR.all_cond (fun h6=>?_) (fun x_=>PR.all_cond (fun h7=>?_) (fun x_=>trivial)))))))
 ·have key:∀ a b p,(zgS toks n a b p).all zg4:=fun a b p=>PR.all_cond (fun x_=>PR.all_then fun x_ x_=>.reg _ _ _ _ hn (zqL h1)) (fun x_=>PR.all_then fun x_ x_=>.reg _ _ _ _ hn (zqL h1))
  exact PR.all_then fun x_ x_=>PR.all_cond (fun x_=>PR.all_then fun x_ x_=>key _ _ _) (fun x_=>key _ _ _)
 ·exact PR.all_then fun x_ x_=>PR.all_then fun x_ x_=>.reg _ _ _ _ hn (by rw [of_decide_eq_true h2];decide)
 ·exact PR.all_then fun x_ x_=>.reg _ _ _ _ hn (by rw [of_decide_eq_true h3];decide)
 ·have hb:decide (n∈BRS)=false:=decide_eq_false fun hb=>by
   rw [(zkp hb).2.2] at h4;exact Bool.noConfusion h4
  have key:∀ a b o s p,(zks toks n a b o s p).all zg4:=fun a b o s p=>PR.all_cond (fun x_=>trivial) (fun x_=>.reg _ _ _ _ hn hb)
  exact PR.all_then fun x_ x_=>PR.all_then fun x_ x_=>PR.all_then fun x_ x_=>PR.all_then fun x_ x_=>PR.all_cond (fun x_=>PR.all_then fun x_ x_=>key _ _ _ _ _) (fun x_=>key _ _ _ _ _)
 ·have hb:n∈BRS:=by
   rcases (Bool.or_eq_true_iff.mp h5) with h | h <;> rw [of_decide_eq_true h] <;> decide
  have ht:∀ p,(zdY toks p).all TOk:=fun p=>PR.all_then fun x_ x_=>PR.all_cond (fun x_=>.inr ⟨_,rfl⟩) (fun x_=>PR.all_then fun x_ x_=>.inl ⟨_,rfl⟩)
  refine PR.all_then fun x_ x_=>PR.all_bind (ht _) fun t x_ q=>?_
  rcases q with ⟨v,rfl⟩ | ⟨s,rfl⟩
  ·exact .br _ _ _ _ hb
  ·exact .aim _ _ _ h5
 ·have hb:n∈BRS:=by
   rcases (Bool.or_eq_true_iff.mp h6) with h | h <;> rw [of_decide_eq_true h] <;> decide
  exact PR.all_then fun x_ x_=>PR.all_then fun x_ x_=>.br _ _ _ _ hb
 ·have hb:n∈BRS:=by rw [of_decide_eq_true h7];decide
  exact PR.all_then fun x_ x_=>PR.all_then fun x_ x_=>PR.all_then fun x_ x_=>.br _ _ _ _ hb
noncomputable def ze8 (toks:List (List Nat)):Except (List Nat) D:=match (zdD toks 0).bind fun d p=>(zhl toks p).bind fun x_ p=>.ok d p with
 | .ok d _=>.ok d
 | .err w _=>.error w
noncomputable abbrev zcY:=List (List Nat×Int)
noncomputable abbrev Drs:=List (Int×D)
noncomputable def zgV (num:Int) (toks:List (List Nat)) (drafts:Drs):Except (List Nat) Drs:=
 bif decide (0 < ((toks.map D.str).length:Int)) then (match ze8 toks with
  | .ok d=>.ok (drafts ++ [(num,d)])
  | .error w=>.error w) else .ok drafts
noncomputable def zdE (num:Int) (l:List Nat) (drafts:Drs) (labels:zcY):Except (List Nat) (Drs×zcY):=match lex l with
 | none=>.error [98,97,100,32,99,104,97,114,97,99,116,101,114]
 | some toks=>match zgT toks with
  | none=>.error [98,97,100,32,108,97,98,101,108]
  | some lab=>bif !decide (lab=[]) then (bif (zbB labels lab).isSome then .error [108,97,98,101,108,32,116,119,105,99,101] else (zgV num (toks.drop 2) drafts).map fun d=>(d,labels ++ [(lab,(drafts.length:Int))]))
   else (zgV num toks drafts).map fun d=>(d,labels)
noncomputable def zg5:List (List Nat)→Int→Drs→zcY→Except (Int×List Nat) (Drs×zcY)
 | [],_,drafts,labels=>.ok (drafts,labels)
 | l :: ls,num,drafts,labels=>match zdE (num+1) l drafts labels with
  | .error w=>.error (num+1,w)
  | .ok x=>zg5 ls (num+1) x.1 x.2
noncomputable def drD (drafts:Drs):List D:=drafts.map fun x=>.tup [.int x.1,x.2]
theorem zuM {labels:zcY} {lab:List Nat} (v:Int) (h:(zbB labels lab).isSome=false):zfc (zbf labels) lab (.int v)=zbf (labels ++ [(lab,v)]):=by
 have h1:=zkt labels lab
 rw [h] at h1
 have h2:=of_decide_eq_false h1
 unfold zfc
 have h3:((zbf labels).any fun p=>decide (p.1=lab))=false:=by
  rw [List.any_eq_false]
  intro p hp
  simp only [decide_eq_true_eq]
  exact fun e=>h2 (List.mem_map.mpr ⟨p,hp,e⟩)
 rw [h3]
 show zbf labels ++ _=_
 unfold zbf;rw [List.map_append];rfl
theorem zwA {α:Type} (l:List α) (hl:l.length≤1000000):slc l (some 2) none=l.drop 2:=by
 rcases Nat.lt_or_ge l.length 2 with h | h
 ·have:l=[]∨∃ x,l=[x]:=by
   cases l with
   | nil=>exact .inl rfl
   | cons x l=>cases l with
    | nil=>exact .inr ⟨x,rfl⟩
    | cons y l=>simp at h;lia
  rcases this with rfl | ⟨x,rfl⟩ <;> rfl
 ·unfold slc
  have:clipAt l.length 2=2:=ziW l.length 2 h
  simp only [Option.elim,this]
  exact List.take_of_length_le (by simp)
noncomputable abbrev zzn:CF:=kIf (tst (zai (opC .Gt) (zaI zbw [(zae 5)]) (zac (.int 0)))) (zaj (zam (zat 7) (zmG zd2 3 [(zae 5),(zae 3)])) (zaj (zam (zat 8) (zaw zer 1 [(zae 7)])) (zaj (zaY (zaS zd3 1 (zae 7) [])) (zaY (zbH (zae 1) (zaW [(zae 3),(zae 8)])))))) zaz
theorem zqM {K:RX Fw→RE} {r:RE} {μ:Mem} {toks:List (List Nat)} (hs:zbZ toks) {num:Int} {drafts:Drs} (hd:drafts.length≤100000) {o:MO} {s0 s2 s4 s6 s7 s8:Option V} {q:Loc}
  (hE:∀ w L,zgV num toks drafts = .error w→K (.exc (.asm num w) (μ ++ L))=r)
  (hO:∀ d a b L,zgV num toks drafts = .ok d→(∀ x∈d,x∈drafts∨zg4 x.2)→d.length≤drafts.length+1→K (.ok (.next (s0 :: some (.ref (μ.length+0)) :: s2 :: some (.d (.int num)) :: s4 :: some (.d (.lst (toks.map .str))) :: s6 :: a :: b :: q)) (μ ++ ([.list (drD d),o] ++ L)))=r) :
  K (zzn (s0 :: some (.ref (μ.length+0)) :: s2 :: some (.d (.int num)) :: s4 :: some (.d (.lst (toks.map .str))) :: s6 :: s7 :: s8 :: q) (μ ++ [.list (drD drafts),o]))=r:=by
 have hl:(toks.map D.str).length≤16777216:=by have:=hs.1;rw [List.length_map];lia
 have hdl:(drD drafts).length≤10000000:=by unfold drD;rw [List.length_map];lia
 unfold zgV at hE hO
 refine zaM (zaD (t:=decide (0 < ((toks.map D.str).length:Int))) (zak (zah (zaF (zaf (zad rfl) zag) (zan zaa zaA) (zdg (by with_reducible assumption))) zab zaa zaa zhd)) (fun h=>?_) (fun h=>?_)) <;> rw [h] at hE hO
 rotate_left
 ·refine zav (zbD ?_)
  exact hO drafts s7 s8 [] rfl (fun x hx=>.inl hx) (Nat.le_succ _)
 rw [cond_true] at hE hO
 have eB:∀ p,(μ ++ [.list (drD drafts),o,rd toks num 0]).set (μ.length+2) (rd toks num p)=μ ++ [.list (drD drafts),o,rd toks num p]:=fun p=>zhe
 have eI:(μ ++ [.list (drD drafts),o,rd toks num 0]).set (μ.length+2) (.inst [])=μ ++ [.list (drD drafts),o,.inst []]:=zhe
 have hk:μ.length+2 < (μ ++ [.list (drD drafts),o,rd toks num 0]).length:=by simp
 have hi:zd2 [.ref (μ.length+2),.d (.lst (toks.map .str)),.d (.int num)] (μ ++ [.list (drD drafts),o,.inst []]) = .ok (.d .none) (μ ++ [.list (drD drafts),o,rd toks num 0]):=by
  rw [← eI,ztg hk,eB]
 have hr:=zrJ (row:=num) (p:=0) hs hk
 have hform:=zuL hs 0
 rw [eB] at hr
 refine zbb (zau (zye (j:=2) (zaf (zad rfl) (zaf (zad rfl) zag)) rfl rfl hi) ?_)
 unfold ze8 at hE hO
 cases hq:zdD toks 0 with
 | err w p=>
  rw [hq] at hr hE
  have hr':zer [.ref (μ.length+2)] (μ ++ [.list (drD drafts),o,rd toks num 0]) = .exc (.asm num w) (μ ++ [.list (drD drafts),o,rd toks num p]):=by rw [hr];show RX.exc _ _=_;rw [eB]
  exact zbb (zgP (zas (zaf (zad rfl) zag) rfl hr') (hE w _ rfl))
 | ok d p=>
  rw [hq] at hr hE hO hform
  have hr':zer [.ref (μ.length+2)] (μ ++ [.list (drD drafts),o,rd toks num 0]) = .ok (.d d) (μ ++ [.list (drD drafts),o,rd toks num p]):=by rw [hr];show RX.ok _ _=_;rw [eB]
  refine zbb (zau (zas (zaf (zad rfl) zag) rfl hr') ?_)
  have hf:=zqj (row:=num) (p:=p) hs hk
  rw [eB] at hf
  have hg:(μ ++ [.list (drD drafts),o,rd toks num p])[μ.length+2]? = some (rd toks num p):=zaN rfl
  cases hq2:zhl toks p with
  | err w p2=>
   have hf':zd3 [.ref (μ.length+2)] (μ ++ [.list (drD drafts),o,rd toks num p]) = .exc (.asm num w) (μ ++ [.list (drD drafts),o,rd toks num p2]):=by rw [hf,hq2];show RX.exc _ _=_;rw [eB]
   refine zbb (zdT (zaP (zad rfl) hg zag rfl hf') (hE w _ ?_))
   simp only [PR.bind,hq2]
  | ok u p2=>
   have hf':zd3 [.ref (μ.length+2)] (μ ++ [.list (drD drafts),o,rd toks num p]) = .ok (.d .none) (μ ++ [.list (drD drafts),o,rd toks num p2]):=by rw [hf,hq2];show RX.ok _ _=_;rw [eB]
   refine zbb (zbY (zaP (zad rfl) hg zag rfl hf') ?_)
   refine zbY (zbU (b:=μ) (j:=0) (zad rfl) (zaN rfl) (za2 (zaf (zad rfl) (zaf (zad rfl) zag)) rfl) rfl hdl) (zbD ?_)
   have:=hO (drafts ++ [(num,d)]) (some (.ref (μ.length+2))) (some (.d d)) [rd toks num p2] (by simp only [PR.bind,hq2]) (fun x hx=>?_) (by simp)
   ·unfold drD at this
    rw [List.map_append] at this
    exact this
   ·rcases List.mem_append.mp hx with h | h
    ·exact .inl h
    ·rw [List.mem_singleton.mp h];exact .inr hform
theorem zjX {c:Nat} (h:isW c=true):c < 128:=by
 unfold isW isL isF at h
 simp at h
 lia
theorem ztk {α:Type} {p:α→Bool} {x:α}:∀ {l:List α},x∈l.takeWhile p→p x=true
 | [],h=>nomatch h
 | a :: l,h=>by
  rw [List.takeWhile_cons] at h
  cases q:p a <;> rw [q] at h
  ·exact nomatch h
  ·rcases List.mem_cons.mp h with rfl | h
   ·exact q
   ·exact ztk h
theorem zuN:∀ (n:Nat) (l:List Nat) (toks:List (List Nat)),l.length≤n→lex l=some toks→toks.length≤l.length∧∀ t∈toks,t≠[]∧t.length≤l.length∧t.all (fun c=>decide (c < 128))=true:=by
 intro n
 induction n with
 | zero=>
  intro l toks h e
  have:l=[]:=List.length_eq_zero_iff.mp (by lia)
  subst this
  cases (show some []=some toks from e)
  exact ⟨Nat.le_refl _,fun t h=>nomatch h⟩
 | succ n ih=>
  intro l toks h e
  cases l with
  | nil=>
   cases (show some []=some toks from e)
   exact ⟨Nat.le_refl _,fun t h=>nomatch h⟩
  | cons c r=>
   rw [List.length_cons] at h ⊢
   rw [zgx] at e
   cases h0:decide ([c]=[59]) <;> rw [h0] at e
   rotate_left
   ·cases e;exact ⟨Nat.zero_le _,fun t h=>nomatch h⟩
   cases h1:decide (c∈[32,9,13]) <;> rw [h1] at e
   rotate_left
   ·obtain ⟨a,b⟩:=ih r toks (by lia) e
    exact ⟨by lia,fun t ht=>⟨(b t ht).1,by have:=(b t ht).2.1;lia,(b t ht).2.2⟩⟩
   cases h2:decide (c∈[44,58,91,93]) <;> rw [h2] at e
   rotate_left
   ·obtain ⟨ts,e1,rfl⟩:=Option.map_eq_some_iff.mp e
    obtain ⟨a,b⟩:=ih r ts (by lia) e1
    refine ⟨by rw [List.length_cons];lia,fun t ht=>?_⟩
    rcases List.mem_cons.mp ht with rfl | ht
    ·have:∀ x∈[44,58,91,93],[x].all (fun c=>decide (c < 128))=true:=by decide
     exact ⟨by simp,by simp,this c (of_decide_eq_true h2)⟩
    ·exact ⟨(b t ht).1,by have:=(b t ht).2.1;lia,(b t ht).2.2⟩
   cases h3:(isL c || (isF c || decide ([c]=[45]))) <;> rw [h3] at e
   ·exact nomatch e
   ·obtain ⟨ts,e1,rfl⟩:=Option.map_eq_some_iff.mp e
    have hd:=zhA r
    obtain ⟨a,b⟩:=ih (r.dropWhile isW) ts (by lia) e1
    refine ⟨by rw [List.length_cons];lia,fun t ht=>?_⟩
    rcases List.mem_cons.mp ht with rfl | ht
    ·refine ⟨by simp,?_,?_⟩
     ·have:=(List.takeWhile_sublist isW (l:=r)).length_le
      rw [List.length_cons];lia
     ·rw [List.all_cons,Bool.and_eq_true,List.all_eq_true]
      refine ⟨?_,fun x hx=>decide_eq_true (zjX (ztk hx))⟩
      apply decide_eq_true
      rcases Bool.or_eq_true_iff.mp h3 with q | q
      ·exact zjX (by unfold isW;rw [q];rfl)
      ·rcases Bool.or_eq_true_iff.mp q with q | q
       ·exact zjX (by unfold isW;rw [q,Bool.or_true])
       ·have:=of_decide_eq_true q;simp at this;lia
    ·exact ⟨(b t ht).1,by have:=(b t ht).2.1;lia,(b t ht).2.2⟩
theorem ztl {l:List Nat} {toks:List (List Nat)} (hl:l.length≤90000) (h:lex l=some toks):zbZ toks:=by
 obtain ⟨a,b⟩:=zuN _ l toks (Nat.le_refl _) h
 exact ⟨by lia,fun t ht=>⟨by have:=(b t ht).2.1;lia,(b t ht).2.2⟩,fun t ht=>(b t ht).1⟩
theorem zrQ {toks:List (List Nat)} (h:zbZ toks) (n:Nat):zbZ (toks.drop n):=
 ⟨by rw [List.length_drop];have:=h.1;lia,fun t ht=>h.2.1 t (List.mem_of_mem_drop ht),fun t ht=>h.2.2 t (List.mem_of_mem_drop ht)⟩
theorem zwB {K:RX Fw→RE} {r:RE} {μ:Mem} {l:List Nat} (hl:l.length≤90000) {num:Int} {drafts:Drs} {labels:zcY} (hd:drafts.length≤1000) (hb:labels.length≤1000) {s0 s5 s6 s7 s8:Option V} {q:Loc}
  (hE:∀ w L,zdE (num+1) l drafts labels = .error w→K (.exc (.asm (num+1) w) (μ ++ L))=r)
  (hO:∀ d lb s5 s6 a b L,zdE (num+1) l drafts labels = .ok (d,lb)→(∀ x∈d,x∈drafts∨zg4 x.2)→d.length≤drafts.length+1→lb.length≤labels.length+1→
   K (.ok (.next (s0 :: some (.ref (μ.length+0)) :: some (.ref (μ.length+1)) :: some (.d (.int (num+1))) :: some (.d (.str l)) :: s5 :: s6 :: a :: b :: q)) (μ ++ ([.list (drD d),.dcS (zbf lb)] ++ L)))=r) :
  K (zgF (s0 :: some (.ref (μ.length+0)) :: some (.ref (μ.length+1)) :: some (.d (.int num)) :: some (.d (.str l)) :: s5 :: s6 :: s7 :: s8 :: q) (μ ++ [.list (drD drafts),.dcS (zbf labels)]))=r:=by
 have hdl:(drD drafts).length≤16777216:=by unfold drD;rw [List.length_map];lia
 unfold zdE at hE hO
 unfold zgF
 refine zki rfl zab ?_
 have ht:=fun μ=>zpd l (num+1) hl μ
 cases hx:lex l with
 | none=>
  rw [hx] at ht hE
  exact zgP (zas (zaf (zad rfl) (zaf (zad rfl) zag)) rfl (ht _)) (hE _ _ rfl)
 | some toks=>
  rw [hx] at ht hE hO
  have hs:=ztl hl hx
  refine zau (zas (zaf (zad rfl) (zaf (zad rfl) zag)) rfl (ht _)) ?_
  have hc:=fun μ=>zrK (toks:=toks) (num+1) hs μ
  cases hy:zgT toks with
  | none=>
   simp only [hy] at hE
   rw [hy] at hc
   exact zgP (zas (zaf (zad rfl) (zaf (zad rfl) zag)) rfl (hc _)) (hE _ _ rfl)
  | some lab=>
   simp only [hy] at hE hO
   rw [hy] at hc
   refine zau (zas (zaf (zad rfl) (zaf (zad rfl) zag)) rfl (hc _)) ?_
   refine zaD (t:=!decide (lab=[])) (zak (zah (zad rfl) zab zaa zaa zcm)) (fun h=>?_) (fun h=>?_) <;> rw [h] at hE hO
   ·rw [cond_true] at hE hO
    have hm:=zkt labels lab
    refine zbb (zaD (t:=(zbB labels lab).isSome) (by rw [← hm];exact zak (zah (zad rfl) (zad rfl) zaa (zfE (zaN rfl)) zyd)) (fun h=>?_) (fun h=>?_)) <;> rw [h] at hE hO
    ·exact zhj (zad rfl) zab (hE _ _ rfl)
    ·rw [cond_false] at hE hO
     refine zav (zbb (zmW (v:=.d (.int ((drD drafts).length:Nat))) (zaF (zaf (zad rfl) zag) (zan (za0 (zaN rfl)) zaA) (zdg (by with_reducible assumption))) (zad rfl) (zad rfl) (μ4:=μ ++ [.list (drD drafts),.dcS (zbf (labels ++ [(lab,(drafts.length:Int))]))]) ?_ ?_))
     ·have hg:(μ ++ [.list (drD drafts),.dcS (zbf labels)])[μ.length+1]? = some (.dcS (zbf labels)):=zaN rfl
      rw [zng hg (by unfold zbf;rw [List.length_map];lia),zuM _ h,zhe,show (drD drafts).length=drafts.length by unfold drD;rw [List.length_map]]
      rfl
     ·have hsl:slc (toks.map D.str) (some 2) none=(toks.drop 2).map .str:=by rw [zwA _ (by rw [List.length_map];have:=hs.1;lia),List.map_drop]
      have htl:(toks.map D.str).length≤16777216:=by rw [List.length_map];have:=hs.1;lia
      have hos:zeX (.lst (toks.map D.str)) (some 2) none=some (.lst ((toks.drop 2).map .str)):=by rw [← hsl];exact zs2 htl
      refine zau (v:=.d (.lst ((toks.drop 2).map .str))) (zcz (zad rfl) (zcL zab) zcy zaa hos) ?_
      refine zqM (zrQ hs 2) (by lia) (fun w L e=>hE w L (by rw [e];rfl)) (fun d a b L e h1 h2=>?_)
      exact hO d _ _ _ a b L (by rw [e];rfl) h1 h2 (by simp)
   ·rw [cond_false] at hE hO
    refine zav (zqM hs (by lia) (fun w L e=>hE w L (by rw [e];rfl)) (fun d a b L e h1 h2=>?_))
    exact hO d labels _ _ a b L (by rw [e];rfl) h1 h2 (Nat.le_succ _)
theorem zqN {n k:Nat} (h:k < n):zjt n (some (.ref k))=some (.ref k):=if_pos h
theorem zuO {μ L:Mem} {a b x y:MO}:(μ ++ ([x,y] ++ L)).take (μ ++ [a,b]).length=μ ++ [x,y]:=by
 have:(μ ++ ([x,y] ++ L))=(μ ++ [x,y]) ++ L:=by simp
 rw [this];exact List.take_left' (by simp)
theorem zzo {K:RX Fw→RE} {r:RE} {μ:Mem} {x:D}:∀ (ls:List (List Nat)) (num:Int) (drafts:Drs) (labels:zcY) (s4 s5 s6 s7 s8:Option V),
  (∀ l∈ls,l.length≤90000)→drafts.length+ls.length≤1000→labels.length+ls.length≤1000→(∀ x∈drafts,zg4 x.2)→
  (∀ n w L,zg5 ls num drafts labels = .error (n,w)→K (.exc (.asm n w) (μ ++ L))=r)→
  (∀ d lb n s4 s5 s6 s7 s8,zg5 ls num drafts labels = .ok (d,lb)→(∀ x∈d,zg4 x.2)→d.length≤1000→
   K (.ok (.next [some (.d x),some (.ref (μ.length+0)),some (.ref (μ.length+1)),some (.d (.int n)),s4,s5,s6,s7,s8,none,none,none,none,none,none,none,none,none,none]) (μ ++ [.list (drD d),.dcS (zbf lb)]))=r)→
  K (zcK (zat 4) (ziO zgF) (ls.map .str) [some (.d x),some (.ref (μ.length+0)),some (.ref (μ.length+1)),some (.d (.int num)),s4,s5,s6,s7,s8,none,none,none,none,none,none,none,none,none,none] (μ ++ [.list (drD drafts),.dcS (zbf labels)]))=r:=by
 intro ls
 induction ls with
 | nil=>
  intro num drafts labels s4 s5 s6 s7 s8 _ h1 _ h2 _ hO
  exact zdU (hO drafts labels num s4 s5 s6 s7 s8 rfl h2 (by simpa using h1))
 | cons l ls ih=>
  intro num drafts labels s4 s5 s6 s7 s8 hl h1 h2 h3 hE hO
  rw [List.length_cons] at h1 h2
  refine zez (zzk ?_)
  unfold zg5 at hE hO
  refine zwB (hl l (List.mem_cons_self ..)) (by lia) (by lia) (fun w L e=>?_) (fun d lb s5 s6 a b L e g1 g2 g3=>?_)
  ·exact hE (num+1) w L (by rw [e])
  ·refine zzl ?_
   rw [zuO]
   simp only [List.map_cons,List.map_nil]
   rw [zqN (by simp),zqN (by simp)]
   refine zdp ?_
   refine ih (num+1) d lb _ _ _ _ _ (fun l h=>hl l (List.mem_cons_of_mem _ h)) (by lia) (by lia) (fun x hx=>?_) (fun n w L e2=>hE n w L (by rw [e];exact e2)) (fun d' lb' n s4 s5 s6 s7 s8 e2=>hO d' lb' n s4 s5 s6 s7 s8 (by rw [e];exact e2))
   rcases g1 x hx with h | h
   ·exact h3 x h
   ·exact h
noncomputable def zic (labels:zcY) (cnt:Nat):D→Except (List Nat) D
 | .tup [.str n,.int a,.int b,.int c]=>bif decide (zda n a b c=[]) then .ok (za9 n (.int a) (.int b) (.int c)) else .error (zda n a b c)
 | .tup [.str n,.str cond,.int t,.int last]=>
  let last:=bif decide (n=sB) || decide (n=sBL) then 0 else last
  bif decide (zcR n cond t last=[]) then .ok (za9 n (.str cond) (.int t) (.int last)) else .error (zcR n cond t last)
 | .tup [.str n,.str cond,.str lab,.int _]=>match zbB labels lab with
  | none=>.error [117,110,107,110,111,119,110,32,108,97,98,101,108]
  | some v=>bif decide (zcR n cond (v - (cnt:Int) - 1) 0=[]) then .ok (za9 n (.str cond) (.int (v - (cnt:Int) - 1)) (.int 0)) else .error (zcR n cond (v - (cnt:Int) - 1) 0)
 | _=>.error []
noncomputable def zm1 (labels:zcY):Drs→List D→Except (Int×List Nat) (List D)
 | [],rows=>.ok rows
 | x :: t,rows=>match zic labels rows.length x.2 with
  | .error w=>.error (x.1,w)
  | .ok d=>zm1 labels t (rows ++ [d])
theorem zpo {labels:zcY} {cnt:Nat} {n:List Nat} {a b c:Int}:zic labels cnt (za9 n (.int a) (.int b) (.int c))=bif decide (zda n a b c=[]) then .ok (za9 n (.int a) (.int b) (.int c)) else .error (zda n a b c):=rfl
theorem zqO {labels:zcY} {cnt:Nat} {n cond:List Nat} {t last:Int}:zic labels cnt (za9 n (.str cond) (.int t) (.int last))=bif decide (zcR n cond t (bif decide (n=sB) || decide (n=sBL) then 0 else last)=[]) then .ok (za9 n (.str cond) (.int t) (.int (bif decide (n=sB) || decide (n=sBL) then 0 else last))) else .error (zcR n cond t (bif decide (n=sB) || decide (n=sBL) then 0 else last)):=rfl
theorem zpp {labels:zcY} {cnt:Nat} {n cond lab:List Nat} {last:Int}:zic labels cnt (za9 n (.str cond) (.str lab) (.int last))=match zbB labels lab with
  | none=>.error [117,110,107,110,111,119,110,32,108,97,98,101,108]
  | some v=>bif decide (zcR n cond (v - (cnt:Int) - 1) 0=[]) then .ok (za9 n (.str cond) (.int (v - (cnt:Int) - 1)) (.int 0)) else .error (zcR n cond (v - (cnt:Int) - 1) 0):=rfl
theorem ziZ {K:RX Fw→RE} {r:RE} {μ:Mem} {o0 o1:MO} {rows:List D} (hl:rows.length≤1000) {num:Int} {d:D} {f:List Nat} {s0 s1 s2 s4 s5 s6 s7 s10:Option V} {q:Loc} (hf:∀ μ,zdl [.d d] μ = .ok (.d (.str f)) μ)
  (hE:decide (f=[])=false→∀ L,K (.exc (.asm num f) (μ ++ L))=r)
  (hO:decide (f=[])=true→K (.ok (.next (s0 :: s1 :: s2 :: some (.d (.int num)) :: s4 :: s5 :: s6 :: s7 :: some (.d d) :: some (.ref (μ.length+2)) :: some (.d (.str f)) :: q)) (μ ++ [o0,o1,.list (rows ++ [d])]))=r) :
  K (zaj (zam (zat 10) (zaw zdl 1 [(zae 8)])) (zaj (kIf (tst (zai (opC .NotEq) (zae 10) (zac (.str [])))) (zdy (zae 3) (zae 10)) zaz) (zaY (zbH (zae 9) (zae 8)))) (s0 :: s1 :: s2 :: some (.d (.int num)) :: s4 :: s5 :: s6 :: s7 :: some (.d d) :: some (.ref (μ.length+2)) :: s10 :: q) (μ ++ [o0,o1,.list rows]))=r:=by
 refine zau (zas (zaf (zad rfl) zag) rfl (hf _)) ?_
 refine zaD (t:=!decide (f=[])) (zak (zah (zad rfl) zab zaa zaa zcm)) (fun h=>?_) (fun h=>?_)
 ·exact zhj (zad rfl) (zad rfl) (hE (by simpa using h) _)
 ·refine zav (zaM (zbY (zbU (b:=μ) (j:=2) (zad rfl) (zaN rfl) (zad rfl) rfl (by lia)) (zbD ?_)))
  exact hO (by simpa using h)
theorem zwC {K:RX Fw→RE} {r:RE} {μ:Mem} {o0:MO} {labels:zcY} {rows:List D} (hl:rows.length≤1000) {num:Int} {d:D} (hd:zg4 d) {s0 s1 s4 s5 s6 s7 s10:Option V} {q:Loc}
  (hE:∀ w L,zic labels rows.length d = .error w→K (.exc (.asm num w) (μ ++ L))=r)
  (hO:∀ d' f,zic labels rows.length d = .ok d'→K (.ok (.next (s0 :: s1 :: some (.ref (μ.length+1)) :: some (.d (.int num)) :: s4 :: s5 :: s6 :: s7 :: some (.d d') :: some (.ref (μ.length+2)) :: some f :: q)) (μ ++ [o0,.dcS (zbf labels),.list (rows ++ [d'])]))=r) :
  K (zgG (s0 :: s1 :: some (.ref (μ.length+1)) :: some (.d (.int num)) :: s4 :: s5 :: s6 :: s7 :: some (.d d) :: some (.ref (μ.length+2)) :: s10 :: q) (μ ++ [o0,.dcS (zbf labels),.list rows]))=r:=by
 unfold zgG
 have hz:rows.length≤16777216:=by lia
 cases hd with
 | reg n a b c hn hb=>
  have f0:(decide (n=sB) || decide (n=sBL))=false:=by
   have:=of_decide_eq_false hb
   cases q1:decide (n=sB) with
   | true=>exact absurd (by rw [of_decide_eq_true q1];decide) this
   | false=>cases q2:decide (n=sBL) with
    | true=>exact absurd (by rw [of_decide_eq_true q2];decide) this
    | false=>rfl
  refine zaD (t:=decide (n=sB) || decide (n=sBL)) (zbR (zak (zah (zah (zad rfl) zab zaa zaa (za4 (by decide) rfl)) zab zaa zaa zaT)) (fun x_=>zbI (zak (zah (zah (zad rfl) zab zaa zaa (za4 (by decide) rfl)) zab zaa zaa zaT)))) (fun h=>?_) (fun x_=>zav ?_)
  ·rw [f0] at h;exact Bool.noConfusion h
  ·rw [zpo] at hE hO
   refine ziZ hl (fun μ=>zjR n a b c hn hb μ) (fun h L=>hE _ L (by rw [h];rfl)) (fun h=>hO _ _ (by rw [h];rfl))
 | br n cond t last hb=>
  rw [zqO] at hE hO
  refine zaD (t:=decide (n=sB) || decide (n=sBL)) (zbR (zak (zah (zah (zad rfl) zab zaa zaa (za4 (by decide) rfl)) zab zaa zaa zaT)) (fun x_=>zbI (zak (zah (zah (zad rfl) zab zaa zaa (za4 (by decide) rfl)) zab zaa zaa zaT)))) (fun h=>?_) (fun h=>zav ?_)
  ·simp only [h,cond_true] at hE hO
   refine zau (μ1:=μ ++ [o0,.dcS (zbf labels),.list rows]) (v:=.d (za9 n (.str cond) (.int t) (.int 0))) ?_ ?_
   ·refine zas (zaf (zah (zad rfl) zab zaa zaa (za4 (by decide) rfl)) (zaf (zah (zad rfl) zab zaa zaa (za4 (by decide) rfl)) (zaf (zah (zad rfl) zab zaa zaa (za4 (by decide) rfl)) (zaf (v:=.d (.int (rows.length:Nat))) (zaF (zaf (zad rfl) zag) (zan (za0 (zaN rfl)) zaA) (zdg (by with_reducible assumption))) (zaf (zad rfl) (zaf (zad rfl) zag)))))) rfl (zuG n (.str cond) t _ _ num)
   ·exact ziZ hl (fun μ=>zf5 n cond t 0 hb μ) (fun h L=>hE _ L (by rw [h];rfl)) (fun h=>hO _ _ (by rw [h];rfl))
  ·simp only [h,cond_false] at hE hO
   exact ziZ hl (fun μ=>zf5 n cond t last hb μ) (fun h L=>hE _ L (by rw [h];rfl)) (fun h=>hO _ _ (by rw [h];rfl))
 | aim n cond lab h=>
  have hb:n∈BRS:=by
   rcases (Bool.or_eq_true_iff.mp h) with h | h <;> rw [of_decide_eq_true h] <;> decide
  rw [zpp] at hE hO
  refine zaD (t:=decide (n=sB) || decide (n=sBL)) (zbR (zak (zah (zah (zad rfl) zab zaa zaa (za4 (by decide) rfl)) zab zaa zaa zaT)) (fun x_=>zbI (zak (zah (zah (zad rfl) zab zaa zaa (za4 (by decide) rfl)) zab zaa zaa zaT)))) (fun x_=>?_) (fun h'=>?_)
  ·have ha:=zuH (μ:=μ ++ [o0,.dcS (zbf labels),.list rows]) (k:=μ.length+1) (labels:=labels) (zaN rfl) n (.str cond) lab (rows.length:Nat) num
   cases hx:zbB labels lab with
   | none=>
    rw [hx] at ha
    simp only [hx] at hE
    refine zgP (μ1:=μ ++ [o0,.dcS (zbf labels),.list rows]) (x:=.asm num [117,110,107,110,111,119,110,32,108,97,98,101,108]) ?_ (hE _ _ rfl)
    exact zas (zaf (zah (zad rfl) zab zaa zaa (za4 (by decide) rfl)) (zaf (zah (zad rfl) zab zaa zaa (za4 (by decide) rfl)) (zaf (zah (zad rfl) zab zaa zaa (za4 (by decide) rfl)) (zaf (v:=.d (.int (rows.length:Nat))) (zaF (zaf (zad rfl) zag) (zan (za0 (zaN rfl)) zaA) (zdg (by with_reducible assumption))) (zaf (zad rfl) (zaf (zad rfl) zag)))))) rfl ha
   | some v=>
    rw [hx] at ha
    simp only [hx] at hE hO
    refine zau (μ1:=μ ++ [o0,.dcS (zbf labels),.list rows]) (v:=.d (za9 n (.str cond) (.int (v - (rows.length:Nat) - 1)) (.int 0))) ?_ ?_
    ·exact zas (zaf (zah (zad rfl) zab zaa zaa (za4 (by decide) rfl)) (zaf (zah (zad rfl) zab zaa zaa (za4 (by decide) rfl)) (zaf (zah (zad rfl) zab zaa zaa (za4 (by decide) rfl)) (zaf (v:=.d (.int (rows.length:Nat))) (zaF (zaf (zad rfl) zag) (zan (za0 (zaN rfl)) zaA) (zdg (by with_reducible assumption))) (zaf (zad rfl) (zaf (zad rfl) zag)))))) rfl ha
    ·exact ziZ hl (fun μ=>zf5 n cond _ 0 hb μ) (fun h L=>hE _ L (by rw [h];rfl)) (fun h=>hO _ _ (by rw [h];rfl))
  ·rw [h] at h';exact Bool.noConfusion h'
noncomputable def zym (μ:Mem):Except (Int×List Nat) (List D)→RE
 | .ok rows=>.ok (.d (.lst rows)) μ
 | .error e=>.exc (.asm e.1 e.2) μ
theorem zzp {μ:Mem} {x:D} {drafts:Drs} {labels:zcY} (hd:∀ x∈drafts,zg4 x.2) (hl:drafts.length≤1000):∀ (fuel i:Nat) (rows:List D) (s3 s4 s5 s6 s7 s8 s10:Option V),fuel+i=drafts.length+1→rows.length=i→i≤drafts.length→
  kB2 (zaQ μ.length) (zcQ (zaq (zae 9))) (zc6 (zcP (.ref (μ.length+0))) (zdI [3,8]) zgG fuel i [some (.d x),some (.ref (μ.length+0)),some (.ref (μ.length+1)),s3,s4,s5,s6,s7,s8,some (.ref (μ.length+2)),s10,none,none,none,none,none,none,none,none] (μ ++ [.list (drD drafts),.dcS (zbf labels),.list rows]))=zym μ (zm1 labels (drafts.drop i) rows):=by
 intro fuel
 induction fuel with
 | zero=>
  intro i rows s3 s4 s5 s6 s7 s8 s10 h1 h2 h3
  lia
 | succ fuel ih=>
  intro i rows s3 s4 s5 s6 s7 s8 s10 h1 h2 h3
  rcases Nat.lt_or_ge i drafts.length with h | h
  ·have hi:(drD drafts)[i]? = some (.tup [.int drafts[i].1,drafts[i].2]):=by unfold drD;rw [List.getElem?_map,List.getElem?_eq_getElem h];rfl
   rw [List.drop_eq_getElem_cons h]
   refine zs8 (zaN rfl) hi rfl ?_
   have hdi:=hd _ (List.getElem_mem h)
   generalize drafts[i]=y at *
   unfold zm1
   refine zwC (rows:=rows) (num:=y.1) (d:=y.2) (by lia) hdi (fun w L e=>?_) (fun d' f e=>?_)
   ·rw [e];exact zrD rfl
   ·rw [e]
    refine zo7 ?_
    exact ih (i+1) (rows ++ [d']) _ _ _ _ _ _ _ (by lia) (by simp;lia) h
  ·have hi:(drD drafts)[i]? = none:=by unfold drD;rw [List.getElem?_map,List.getElem?_eq_none h];rfl
   rw [List.drop_eq_nil_of_le h]
   refine zqH (zaN rfl) hi (zc8 (zaM (zay (zad rfl) ?_)))
   exact zgQ rfl rfl
noncomputable def zhE (text:List Nat):Except (Int×List Nat) (List D):=match zg5 (zbc text [10]) 0 [] [] with
 | .error e=>.error e
 | .ok x=>zm1 x.2 x.1 []
theorem zrR {μ:Mem} {text:List Nat} (ht:text.length≤16777210) (h1:∀ l∈zbc text [10],l.length≤90000) (h2:(zbc text [10]).length≤1000):zfo [.d (.str text)] μ=zym μ (zhE text):=by
 refine zhf (zqa _) ?_
 unfold zl7 zhE
 refine zau (zdV zag rfl rfl) (zau (zlx rfl) (zau zab ?_))
 refine zs5 (μ1:=μ ++ [.list [],.dcS []]) (ds:=(zbc text [10]).map .str) ?_ ?_
 ·exact zco (zad rfl) rfl (zaf zab zag) (zan zaa (zan zaa zaA)) (if_pos ⟨by decide,ht⟩)
 ·refine zzo (zbc text [10]) 0 [] [] _ _ _ _ _ h1 (by simpa using h2) (by simpa using h2) (fun x h=>nomatch h) (fun n w L e=>?_) (fun d lb n s4 s5 s6 s7 s8 e g1 g2=>?_)
  ·rw [e];exact zrD rfl
  ·rw [e]
   refine zc8 (zau (zdV zag rfl rfl) ?_)
   refine zs7 (zad rfl) (zaN rfl) ?_
   have:=zzp (μ:=μ) (x:=.str text) (labels:=lb) g1 g2 (d.length+1) 0 [] (some (.d (.int n))) s4 s5 s6 s7 s8 none (by lia) rfl (Nat.zero_le _)
   rw [show (drD d).length=d.length by unfold drD;rw [List.length_map]]
   exact this
noncomputable def zzq:Except (Int×List Nat) (List D)→D
 | .ok rows=>.lst rows
 | .error e=>.tup [.int e.1,.str e.2]
theorem zi0 {μ:Mem} {text:List Nat} (ht:text.length≤16777210) (h1:∀ l∈zbc text [10],l.length≤90000) (h2:(zbc text [10]).length≤1000):zb0 [.d (.str text)] μ = .ok (.d (zzq (zhE text))) μ:=by
 have ha:=zrR (μ:=μ) ht h1 h2
 unfold zb0 zn3 zk1
 rw [List.append_nil,zoS]
 have hv:zbQ [zae 0] [some (.d (.str text)),none,none,none] μ = .ok [.d (.str text)] μ:=zaf (zad rfl) zag
 cases hx:zhE text with
 | ok rows=>
  rw [hx] at ha
  have e:zaq (zaw zfo 1 [zae 0]) [some (.d (.str text)),none,none,none] μ = .ok (.ret (.d (.lst rows))) μ:=by rw [zjL,zas (k:=1) hv rfl ha];rfl
  rw [e];exact zcv rfl
 | error w=>
  rw [hx] at ha
  have e:zaq (zaw zfo 1 [zae 0]) [some (.d (.str text)),none,none,none] μ = .exc (.asm w.1 w.2) μ:=by rw [zjL,zas (k:=1) hv rfl ha];rfl
  rw [e]
  show RX.ok _ (μ.take μ.length)=_
  rw [List.take_length];rfl
noncomputable def zjY (ks:List Int) (t:Int):List Int:=if t∈ks then ks else ks ++ [t]
noncomputable def zbi (p:List Nat) (ks:List Int):List (Int×D):=ks.map fun t=>(t,.str (p ++ zax t))
theorem zk5 (p:List Nat) (ks:List Int) (t:Int):zfW (zbi p ks) t (.str (p ++ zax t))=zbi p (zjY ks t):=by
 have h:((zbi p ks).any fun x=>decide (x.1=t))=decide (t∈ks):=by
  unfold zbi
  induction ks with
  | nil=>rfl
  | cons k ks ih=>
   simp only [List.map_cons,List.any_cons,ih,List.mem_cons]
   by_cases q:k=t
   ·simp [q]
   ·have q':¬ t=k:=fun e=>q e.symm
    simp [q,q']
 unfold zfW zjY
 rw [h]
 by_cases q:t∈ks
 ·rw [decide_eq_true q,if_pos rfl,if_pos q]
  unfold zbi
  rw [List.map_map]
  apply List.map_congr_left
  intro x _
  show (if x=t then (x,D.str (p ++ zax t)) else (x,D.str (p ++ zax x)))=_
  by_cases e:x=t
  ·rw [if_pos e,e]
  ·rw [if_neg e]
 ·rw [decide_eq_false q,if_neg (by decide),if_neg q]
  unfold zbi;rw [List.map_append];rfl
theorem zga {p:List Nat} {ks:List Int} {t:Int} (h:t∈ks):ziI (zbi p ks) t=some (.str (p ++ zax t)):=by
 unfold ziI zbi
 induction ks with
 | nil=>exact nomatch h
 | cons k ks ih=>
  rw [List.map_cons,List.find?_cons]
  by_cases q:k=t
  ·simp [q]
  ·rcases List.mem_cons.mp h with e | h
   ·exact absurd e.symm q
   ·simp only [q,decide_false];exact ih h
theorem zi1 (p:List Nat) (ks:List Int) (t:Int):decide (t∈(zbi p ks).map (·.1))=decide (t∈ks):=by
 unfold zbi;rw [List.map_map];congr 1
 show (t∈ks.map fun x=>x)=_
 rw [List.map_id']
noncomputable def Rw.nm:Rw→List Nat
 | .reg n _ _ _=>n
 | .br n _ _ _=>n
noncomputable def Rw.b2:Rw→Int
 | .reg _ _ b _=>b
 | .br _ _ b _=>b
theorem Rw.d_form (r:Rw):∃ x y,r.d=za9 r.nm x (.int r.b2) y:=by cases r <;> exact ⟨_,_,rfl⟩
noncomputable def za5 (rows:List Rw) (i:Nat):Int:=match rows[i]? with
 | some r=>tgt r.nm r.b2 i rows.length
 | none=>-1
noncomputable def zhF (ks:List Int) (t:Int):List Int:=bif decide (0≤t) then zjY ks t else ks
noncomputable def zaJ (rows:List Rw):Nat→List Int
 | 0=>[]
 | i+1=>zhF (zaJ rows i) (za5 rows i)
theorem zi2 (rows:List Rw):∀ i,(zaJ rows i).length≤i
 | 0=>Nat.le_refl _
 | i+1=>by
  have:=zi2 rows i
  unfold zaJ zhF zjY
  cases decide (0≤za5 rows i)
  ·rw [cond_false];lia
  ·rw [cond_true];split
   ·lia
   ·simp;lia
theorem zpq {μ:Mem} {k i:Nat} {rows:List Rw} (h:μ[k]? = some (.list (rows.map Rw.d))) (hl:rows.length≤100) (hi:i < rows.length):zd4 [.ref k,.d (.int i)] μ = .ok (.d (.int (za5 rows i))) μ:=by
 obtain ⟨x,y,e⟩:=rows[i].d_form
 have hd:(rows.map Rw.d)[i]? = some (za9 rows[i].nm x (.int rows[i].b2) y):=by rw [List.getElem?_map,List.getElem?_eq_getElem hi,← e];rfl
 rw [zqn h (by rw [List.length_map];lia) hd,List.length_map]
 unfold za5;rw [List.getElem?_eq_getElem hi]
theorem zyn {μ L:Mem} {j:Nat} {ks:List (Int×D)} (h:L[j]? = some (.dcI ks)):zaQ μ.length (.ok (.ret (.ref (μ.length+j))) (μ ++ L)) = .ok (.d (.dcI ks)) μ:=by
 have e:frz μ.length (μ ++ L) (.ref (μ.length+j))=some (.d (.dcI ks)):=by
  show (if _ then _ else _)=_
  rw [if_neg (by lia),zhk (zaN h)];rfl
 show zhO μ.length (.ref (μ.length+j)) (μ ++ L)=_
 unfold zhO
 rw [e]
 show RX.ok _ (List.take _ _)=_
 rw [List.take_left' rfl]
theorem zyo (n:List Nat) (b:Int) (i len:Nat):-1≤tgt n b i len∧tgt n b i len≤len:=by
 unfold tgt
 cases (!decide (n=sB) && !decide (n=sBL))
 ·cases h:(decide ((i:Int)+1+b < 0) || decide ((len:Int) < (i:Int)+1+b))
  ·rw [Bool.or_eq_false_iff] at h
   have h1:=of_decide_eq_false h.1
   have h2:=of_decide_eq_false h.2
   exact ⟨by show -1≤(i:Int)+1+b;lia,by show (i:Int)+1+b≤len;lia⟩
  ·exact ⟨Int.le_refl _,by show -1≤(len:Int);lia⟩
 ·exact ⟨Int.le_refl _,by show -1≤(len:Int);lia⟩
theorem zhG (rows:List Rw) (i:Nat):-1≤za5 rows i∧za5 rows i≤rows.length:=by
 unfold za5
 cases rows[i]? with
 | none=>exact ⟨Int.le_refl _,by show -1≤(rows.length:Int);lia⟩
 | some r=>exact zyo ..
noncomputable def okI (a:Int):Prop:=ze6 a=true∧(zax a).length≤100
theorem zpr {K:RX Fw→RE} {r:RE} {σ:Loc} {b L:Mem} {F O I:EF} {R:CF} {j:Nat} {kvs:List (Int×D)} {t:Int} {x:D} (hv:F σ (b ++ L) = .ok (.d x) (b ++ L)) (ho:O σ (b ++ L) = .ok (.ref (b.length+j)) (b ++ L)) (hi:I σ (b ++ L) = .ok (.d (.int t)) (b ++ L)) (hg:L[j]? = some (.dcI kvs)) (hl:kvs.length≤1000) (h2:K (R σ (b ++ L.set j (.dcI (zfW kvs t x))))=r):K (zaj (zeH F O I) R σ (b ++ L))=r:=by
 refine zmW hv ho hi (μ4:=b ++ L.set j (.dcI (zfW kvs t x))) ?_ h2
 have hg':(b ++ L)[b.length+j]? = some (.dcI kvs):=zaN hg
 rw [zsu hg' hl,zhe]
set_option maxHeartbeats 4000000 in
theorem zjh {μ:Mem} {k:Nat} {rows:List Rw} (h:μ[k]? = some (.list (rows.map Rw.d))) (hl:rows.length≤100) (hf:∀ i,okI (za5 rows i)):zd5 [.ref k] μ = .ok (.d (.dcI (zbi [76] (zaJ rows rows.length)))) μ:=by
 refine zhf (zmO _) ?_
 unfold zje
 have key:∀ (m j:Nat) (s2 s3:Option V),j+m=rows.length→kB2 (zaQ μ.length) (zcQ (zaq (zae 1))) (zcK (zat 2) zgs ((List.range' j m).map fun i=>.int (i:Nat)) [some (.ref k),some (.ref (μ.length+0)),s2,s3,none,none,none,none] (μ ++ [.dcI (zbi [76] (zaJ rows j))])) = .ok (.d (.dcI (zbi [76] (zaJ rows rows.length)))) μ:=by
  intro m
  induction m with
  | zero=>
   intro j s2 s3 e
   have:j=rows.length:=by lia
   subst this
   exact zdU (zc8 (zaM (zay (zad rfl) (zyn rfl))))
  | succ m ih=>
   intro j s2 s3 e
   have hi:=ih (j+1)
   obtain ⟨f1,f2⟩:=hf j
   have ht:=zpq (μ:=μ ++ [.dcI (zbi [76] (zaJ rows j))]) (k:=k) (i:=j) (zf1 h) hl (by lia)
   have hkl:(zbi [76] (zaJ rows j)).length≤1000:=by unfold zbi;rw [List.length_map];have:=zi2 rows j;lia
   refine zez ?_
   unfold zgs
   refine zau (zas (zaf (zad rfl) (zaf (zad rfl) zag)) rfl ht) ?_
   refine zaM (zaD (t:=decide (0≤za5 rows j)) (zak (zah (zad rfl) zab zaa zaa zmd)) (fun q=>?_) (fun q=>?_))
   ·refine zpr (b:=μ) (L:=[.dcI (zbi [76] (zaJ rows j))]) (j:=0) (kvs:=zbi [76] (zaJ rows j)) (t:=za5 rows j) (x:=.str ([76] ++ zax (za5 rows j))) ?_ ?_ ?_ rfl hkl (zbD (zdp ?_))
    ·exact zah zab (zaF (zaf (zad rfl) zag) (zan zaa zaA) (zca f1)) zaa zaa (zbg (c:=1) (d:=100) (Nat.le_refl _) f2 (by decide))
    ·exact zad rfl
    ·exact zad rfl
    have e2:zaJ rows (j+1)=zjY (zaJ rows j) (za5 rows j):=by
     show zhF _ _=_;unfold zhF;rw [q];rfl
    rw [zk5,← e2]
    exact hi _ _ (by lia)
   ·refine zav (zbD (zdp ?_))
    have e2:zaJ rows (j+1)=zaJ rows j:=by
     show zhF _ _=_;unfold zhF;rw [q];rfl
    rw [← e2]
    exact hi _ _ (by lia)
 refine zau (zo5 rfl) ?_
 have hlen:(rows.map Rw.d).length=rows.length:=List.length_map _
 refine zfh (n:=rows.length) (μ1:=μ ++ [.dcI []]) ?_ (by lia) ?_
 ·refine zaF (zaf (zad rfl) zag) (zan (za0 (zf1 h)) zaA) ?_
  rw [zdg (by lia),hlen]
 ·rw [List.range_eq_range']
  exact key rows.length 0 _ _ (by lia)
noncomputable def Rw.good:Rw→Prop
 | .reg n a b c=>n∈zfA∧zhC a b c
 | .br n cond b c=>(n∈BRS∧cond∈zcD)∧okI b∧okI c
noncomputable def zcS (r:Rw) (l:List Nat):List Nat:=match r with
 | .reg n a b c=>zdJ n a b c
 | .br n cond b c=>zeg n cond b c l
theorem zei {n:List Nat} (h:n∈zfA):n.length≤4∧decide (n=zcg)=false∧(decide (n=sBR) || decide (n=zdi))=false∧(decide (n=sB) || decide (n=sBL))=false∧decide (n∈BRS)=false∧decide (n∈[sB,sBL])=false∧decide (n∈[sBR,zdi])=false:=by revert n;decide
theorem znp {n:List Nat} (h:n∈zcD):n.length≤2:=by revert n;decide
theorem zmn {r:Rw} (hr:r.good) (l:List Nat) (hl:l.length≤1000) (μ:Mem):zcN [.d r.d,.d (.str l)] μ = .ok (.d (.str (zcS r l))) μ:=by
 cases r with
 | reg n a b c=>
  obtain ⟨h1,h2,h3,h4,_⟩:=zei hr.1
  exact zql n a b c (by lia) h2 h3 h4 hr.2 l μ
 | br n cond b c=>
  have:=znp hr.1.2
  exact zqm n cond b c hr.1.1 (by lia) hr.2.1.1 hr.2.1.2 hr.2.2.1 hr.2.2.2 l hl μ
theorem ziE {kvs:List (Int×D)} {t:Int} {d:D} (h:ziI kvs t=some d):zap (.dcI kvs) (.int t)=some d:=h
noncomputable def zgb (rows:List Rw) (ks:List Int) (r:Rw) (i:Nat):List (List Nat):=
 (bif decide ((i:Int)∈ks) then [[76] ++ zax i ++ [58]] else []) ++ [[32,32] ++ zcS r (bif decide (0≤za5 rows i) then [76] ++ zax (za5 rows i) else [])]
noncomputable def zbK (rows:List Rw) (ks:List Int):Nat→List (List Nat)
 | 0=>[]
 | i+1=>zbK rows ks i ++ (match rows[i]? with
  | some r=>zgb rows ks r i
  | none=>[])
noncomputable def zeu (rows:List Rw):List (List Nat):=zbK rows (zaJ rows rows.length) rows.length ++ (bif decide ((rows.length:Int)∈zaJ rows rows.length) then [[76] ++ zax rows.length ++ [58]] else [])
theorem zgc {rows:List Rw} {ks:List Int} {i:Nat} {r:Rw} (h:rows[i]? = some r):zbK rows ks (i+1)=zbK rows ks i ++ zgb rows ks r i:=by
 show zbK rows ks i ++ _=_;rw [h]
theorem zuP {ks:List Int} {t x:Int}:x∈zjY ks t↔x∈ks∨x=t:=by
 unfold zjY
 split
 ·constructor
  ·exact .inl
  ·rintro (h | rfl)
   ·exact h
   ·assumption
 ·simp
theorem zuQ {ks:List Int} {t x:Int}:x∈zhF ks t↔x∈ks∨(x=t∧0≤t):=by
 unfold zhF
 cases h:decide (0≤t)
 ·have:=of_decide_eq_false h
  rw [cond_false];constructor
  ·exact .inl
  ·rintro (h | ⟨_,h⟩)
   ·exact h
   ·exact absurd h this
 ·have:=of_decide_eq_true h
  rw [cond_true,zuP];simp [this]
theorem zgA (rows:List Rw):∀ (m:Nat) (x:Int),x∈zaJ rows m↔∃ i,i < m∧x=za5 rows i∧0≤x
 | 0,x=>by constructor;exact fun h=>nomatch h;rintro ⟨i,h,_⟩;lia
 | m+1,x=>by
  show x∈zhF _ _↔_
  rw [zuQ,zgA rows m x]
  constructor
  ·rintro (⟨i,h1,h2,h3⟩ | ⟨rfl,h⟩)
   ·exact ⟨i,by lia,h2,h3⟩
   ·exact ⟨m,by lia,rfl,h⟩
  ·rintro ⟨i,h1,h2,h3⟩
   rcases Nat.lt_or_ge i m with h | h
   ·exact .inl ⟨i,h,h2,h3⟩
   ·have:i=m:=by lia
    subst this;exact .inr ⟨h2,h2▸h3⟩
theorem zfk {r:Rw} (hr:r.good) {l:List Nat} (hl:l.length≤1000):(zcS r l).length≤3000:=by
 cases r with
 | reg n a b c=>
  have h1:=(zei hr.1).1
  have h2:=zk3 n a b c hr.2
  obtain ⟨⟨_,h3⟩,⟨_,h4⟩,_,h5⟩:=hr.2
  show (zdJ _ _ _ _).length≤_
  unfold zdJ
  cases decide (n∈zeN) <;> simp only [cond_true,cond_false,List.length_append,List.length_cons,List.length_nil] <;> lia
 | br n cond b c=>
  have h1:=znp hr.1.2
  have h2:=(zqI hr.1.1).1
  have h3:=hr.2.1.2
  have h4:=hr.2.2.2
  show (zeg _ _ _ _ _).length≤_
  unfold zeg
  cases decide (n=zcg) <;> cases (decide (n=sBR) || decide (n=zdi)) <;> cases (!decide (l=[])) <;> simp only [cond_true,cond_false,List.length_append,List.length_cons,List.length_nil] <;> lia
theorem ztm {rows:List Rw} {ks:List Int} {r:Rw} {i:Nat} (hr:r.good) (hi:okI (i:Int)) (hf:okI (za5 rows i)):(zgb rows ks r i).length≤2∧((zgb rows ks r i).map (·.length)).sum≤4000:=by
 have h1:(bif decide (0≤za5 rows i) then [76] ++ zax (za5 rows i) else []).length≤1000:=by
  have:=hf.2
  cases decide (0≤za5 rows i)
  ·exact Nat.zero_le _
  ·rw [cond_true,List.length_append];simp;lia
 have h3:=hi.2
 unfold zgb
 generalize (bif decide (0≤za5 rows i) then [76] ++ zax (za5 rows i) else [])=lab at *
 have h2:=zfk hr h1
 cases decide ((i:Int)∈ks)
 ·rw [cond_false];simp only [List.nil_append,List.length_cons,List.length_nil,List.map_cons,List.map_nil,List.sum_cons,List.sum_nil,List.length_append];lia
 ·rw [cond_true];simp only [List.nil_append,List.cons_append,List.length_cons,List.length_nil,List.map_cons,List.map_nil,List.sum_cons,List.sum_nil,List.length_append];lia
theorem zgM {rows:List Rw} {ks:List Int} (hg:∀ r∈rows,r.good) (hi:∀ i,i≤rows.length→okI ((i:Nat):Int)) (hf:∀ i,okI (za5 rows i)):∀ m,m≤rows.length→(zbK rows ks m).length≤2 * m∧((zbK rows ks m).map (·.length)).sum≤4000 * m
 | 0,_=>⟨Nat.le_refl _,Nat.le_refl _⟩
 | m+1,h=>by
  obtain ⟨h1,h2⟩:=zgM (ks:=ks) hg hi hf m (by lia)
  have hm:rows[m]? = some rows[m]:=List.getElem?_eq_getElem (by lia)
  obtain ⟨h3,h4⟩:=ztm (rows:=rows) (ks:=ks) (r:=rows[m]) (i:=m) (hg _ (List.getElem_mem _)) (hi m (by lia)) (hf m)
  rw [zgc hm,List.length_append,List.map_append,List.sum_append]
  lia
set_option maxHeartbeats 4000000 in
theorem znT {μ:Mem} {k:Nat} {rows:List Rw} (h:μ[k]? = some (.list (rows.map Rw.d))) (hl:rows.length≤100) (hg:∀ r∈rows,r.good) (hi:∀ i,i≤rows.length→okI ((i:Nat):Int)) (hf:∀ i,okI (za5 rows i)):ze4 [.ref k] μ = .ok (.d (.str (zaV [10] (zeu rows)))) μ:=by
 refine zhf (zmP _) ?_
 have hlen:(rows.map Rw.d).length=rows.length:=List.length_map _
 unfold zjf
 generalize hks:zaJ rows rows.length=ks
 have hlb:=fun (L:Mem)=>zjh (μ:=μ ++ L) (zf1 h) hl hf
 rw [hks] at hlb
 have hlenc:∀ L σ,(σ:Loc)[0]? = some (some (.ref k))→zaI zbw [(zae 0)] σ (μ ++ L) = .ok (.d (.int (rows.length:Nat))) (μ ++ L):=fun L σ e=>by
  refine zaF (zaf (zad e) zag) (zan (za0 (zf1 h)) zaA) ?_
  rw [zdg (by lia),hlen]
 have key:∀ (m j:Nat) (s3 s4 s5:Option V),j+m=rows.length→kB2 (zaQ μ.length) (zcQ (zaj (kIf (tst (zai (opC .In) (zaI zbw [(zae 0)]) (zae 1))) (zaY (zbH (zae 2) (zai zaH (zai zap (zae 1) (zaI zbw [(zae 0)])) (zac (.str [58]))))) zaz) (zaq (zb9 "str" zc2 (zac (.str [10])) [(zae 2)])))) (zcK (zat 3) ze0 ((List.range' j m).map fun i=>.int (i:Nat)) [some (.ref k),some (.d (.dcI (zbi [76] ks))),some (.ref (μ.length+0)),s3,s4,s5,none,none,none,none,none] (μ ++ [.list ((zbK rows ks j).map .str)])) = .ok (.d (.str (zaV [10] (zeu rows)))) μ:=by
  intro m
  induction m with
  | zero=>
   intro j s3 s4 s5 e
   have:j=rows.length:=by lia
   subst this
   obtain ⟨l1,l2⟩:=zgM (ks:=ks) hg hi hf rows.length (Nat.le_refl _)
   refine zdU (zc8 ?_)
   have l3:(((zbK rows ks rows.length).map D.str).length≤10000000):=by rw [List.length_map];lia
   obtain ⟨f1,f2⟩:=hi rows.length (Nat.le_refl _)
   refine zaD (t:=decide ((rows.length:Int)∈ks)) (μ1:=μ ++ [.list ((zbK rows ks rows.length).map .str)]) ?_ (fun q=>?_) (fun q=>?_)
   ·refine zak (zah (hlenc _ _ rfl) (zad rfl) zaa zaa ?_)
    rw [zmg,zi1]
   ·refine zbY (zbU (b:=μ) (j:=0) (zad rfl) (zaN rfl) (zah (zah (zad rfl) (hlenc _ _ rfl) zaa zaa (ziE (zga (of_decide_eq_true q)))) zab zaa zaa (zbg (c:=101) (d:=1) (by rw [List.length_append];simp;lia) (Nat.le_refl _) (by decide))) rfl l3) ?_
    have hd:zeu rows=zbK rows ks rows.length ++ [[76] ++ zax rows.length ++ [58]]:=by unfold zeu;rw [hks,q,cond_true]
    have e2:[MO.list ((zbK rows ks rows.length).map .str)].set 0 (.list ((zbK rows ks rows.length).map D.str ++ [.str ([76] ++ zax rows.length ++ [58])]))=[.list ((zeu rows).map .str)]:=by rw [hd,List.map_append];rfl
    rw [e2]
    have s1:((zeu rows).map (·.length)).sum≤1000000:=by rw [hd,List.map_append,List.sum_append];simp only [List.map_cons,List.map_nil,List.sum_cons,List.sum_nil,List.length_append,List.length_cons,List.length_nil];lia
    have s2:(zeu rows).length≤1000:=by rw [hd,List.length_append];simp only [List.length_cons,List.length_nil];lia
    exact zaM (zay (zco zab rfl (zaf (zad rfl) zag) (zan zaa (zan (za0 (zaN rfl)) zaA)) (zcX zaX s1 s2 (by decide))) (zf2 rfl))
   ·refine zav ?_
    have hd:zeu rows=zbK rows ks rows.length:=by unfold zeu;rw [hks,q,cond_false,List.append_nil]
    rw [← hd] at l1 l2 ⊢
    exact zaM (zay (zco zab rfl (zaf (zad rfl) zag) (zan zaa (zan (za0 (zaN rfl)) zaA)) (zcX (b:=1000000) (n:=1000) zaX (by lia) (by lia) (by decide))) (zf2 rfl))
  | succ m ih=>
   intro j s3 s4 s5 e
   have hi2:=ih (j+1)
   have hj:rows[j]? = some rows[j]:=List.getElem?_eq_getElem (by lia)
   obtain ⟨l1,l2⟩:=zgM (ks:=ks) hg hi hf j (by lia)
   have hgj:=hg _ (List.getElem_mem (by lia:j < rows.length))
   rw [zgc hj] at hi2
   generalize rows[j]=r at *
   obtain ⟨f1,f2⟩:=hf j
   obtain ⟨f3,f4⟩:=hi j (by lia)
   have ht:=fun L=>zpq (μ:=μ ++ L) (k:=k) (i:=j) (zf1 h) hl (by lia)
   have l3:(((zbK rows ks j).map D.str).length≤10000000):=by rw [List.length_map];lia
   have hitem:=zef (rows.map Rw.d) (e:=j) (by lia)
   rw [List.getElem?_map,hj] at hitem
   have part2:∀ (acc:List (List Nat)),acc.length≤2 * j+1→acc ++ [[32,32] ++ zcS r (bif decide (0≤za5 rows j) then [76] ++ zax (za5 rows j) else [])]=zbK rows ks j ++ zgb rows ks r j→
     kB2 (kB2 (zaQ μ.length) (zcQ (zaj (kIf (tst (zai (opC .In) (zaI zbw [(zae 0)]) (zae 1))) (zaY (zbH (zae 2) (zai zaH (zai zap (zae 1) (zaI zbw [(zae 0)])) (zac (.str [58]))))) zaz) (zaq (zb9 "str" zc2 (zac (.str [10])) [(zae 2)]))))) (zkh (zat 3) ze0 ((List.range' (j+1) m).map fun i=>.int (i:Nat)))
     (zaj (zam (zat 4) (zaw zd4 2 [(zae 0),(zae 3)])) (zaj (zam (zat 5) (zbE (tst (zai (opC .GtE) (zae 4) (zac (.int 0)))) (zai zap (zae 1) (zae 4)) (zac (.str [])))) (zaY (zbH (zae 2) (zai zaH (zac (.str [32,32])) (zaw zcN 2 [(zai zap (zae 0) (zae 3)),(zae 5)]))))) [some (.ref k),some (.d (.dcI (zbi [76] ks))),some (.ref (μ.length+0)),some (.d (.int (j:Nat))),s4,s5,none,none,none,none,none] (μ ++ [.list (acc.map .str)])) = .ok (.d (.str (zaV [10] (zeu rows)))) μ:=by
    intro acc ha1 ha2
    have l4:((acc.map D.str).length≤10000000):=by rw [List.length_map];lia
    generalize hlab:(bif decide (0≤za5 rows j) then [76] ++ zax (za5 rows j) else [])=lab at *
    have hlabl:lab.length≤1000:=by
     subst hlab
     cases decide (0≤za5 rows j)
     ·exact Nat.zero_le _
     ·rw [cond_true,List.length_append];simp;lia
    refine zau (zas (zaf (zad rfl) (zaf (zad rfl) zag)) rfl (ht _)) ?_
    refine zau (v:=.d (.str lab)) (μ1:=μ ++ [.list (acc.map .str)]) ?_ ?_
    ·rw [← hlab]
     refine zix (zak (zah (zad rfl) zab zaa zaa zmd)) (fun q=>?_) (fun q=>zab)
     refine zah (zad rfl) (zad rfl) zaa zaa (ziE (zga ?_))
     rw [← hks,zgA]
     exact ⟨j,by lia,rfl,of_decide_eq_true q⟩
    ·have hrt:=zmn hgj lab hlabl (μ ++ [.list (acc.map .str)])
     have hrl:=zfk hgj hlabl
     refine zaM (zbY (zbU (b:=μ) (j:=0) (zad rfl) (zaN rfl) (zah zab (zas (zaf (zah (zad rfl) (zad rfl) (za0 (zf1 h)) zaa hitem) (zaf (zad rfl) zag)) rfl hrt) zaa zaa (zbg (c:=2) (d:=3000) (Nat.le_refl _) hrl (by decide))) rfl l4) (zbD (zdp ?_)))
     have e2:[MO.list (acc.map .str)].set 0 (.list (acc.map D.str ++ [.str ([32,32] ++ zcS r lab)]))=[.list ((zbK rows ks j ++ zgb rows ks r j).map .str)]:=by rw [← ha2,List.map_append];rfl
     rw [e2]
     exact hi2 _ _ _ (by lia)
   refine zez ?_
   unfold ze0
   refine zaD (t:=decide ((j:Int)∈ks)) (μ1:=μ ++ [.list ((zbK rows ks j).map .str)]) ?_ (fun q=>?_) (fun q=>?_)
   ·refine zak (zah (zad rfl) (zad rfl) zaa zaa ?_)
    rw [zmg,zi1]
   ·refine zbY (zbU (b:=μ) (j:=0) (zad rfl) (zaN rfl) (zah (zah (zad rfl) (zad rfl) zaa zaa (ziE (zga (of_decide_eq_true q)))) zab zaa zaa (zbg (c:=101) (d:=1) (by rw [List.length_append];simp;lia) (Nat.le_refl _) (by decide))) rfl l3) ?_
    have e2:[MO.list ((zbK rows ks j).map .str)].set 0 (.list ((zbK rows ks j).map D.str ++ [.str ([76] ++ zax j ++ [58])]))=[.list ((zbK rows ks j ++ [[76] ++ zax j ++ [58]]).map .str)]:=by rw [List.map_append];rfl
    rw [e2]
    refine part2 _ (by rw [List.length_append];simp only [List.length_cons,List.length_nil];lia) ?_
    unfold zgb;rw [q,cond_true,List.append_assoc]
   ·refine zav (part2 _ (by lia) ?_)
    unfold zgb;rw [q,cond_false];rfl
 refine zau (v:=.d (.dcI (zbi [76] ks))) (μ1:=μ ++ []) (zas (zaf (zad rfl) zag) rfl (hlb [])) ?_
 refine zau (zdV zag rfl rfl) ?_
 refine zfh (n:=rows.length) (μ1:=μ ++ [.list []]) (hlenc _ _ rfl) (by lia) ?_
 rw [List.range_eq_range']
 exact key rows.length 0 _ _ _ (by lia)
noncomputable def zcp (n:Nat):List Nat:=(Nat.toDigits 10 n).map Char.toNat
theorem zfI (n:Nat):zax (n:Int)=zcp n:=by
 unfold zax zcp
 rw [signs_ofString]
 show (Nat.repr n).toList.map Char.toNat=_
 rw [Nat.toList_repr]
theorem zhW (m:Nat):zax (Int.negSucc m)=45 :: zcp (m+1):=by
 unfold zax zcp
 rw [signs_ofString]
 show ("-" ++ Nat.repr (m+1)).toList.map Char.toNat=_
 rw [String.toList_append,Nat.toList_repr];rfl
theorem zhH (n:Nat):(zcp n).all isF=true:=by
 rw [List.all_eq_true]
 intro c hc
 obtain ⟨ch,hch,rfl⟩:=List.mem_map.mp hc
 obtain ⟨h1,h2⟩:=digit_range (Nat.isDigit_of_mem_toDigits (by decide) (by decide) hch)
 unfold isF;rw [decide_eq_true h1,decide_eq_true h2];rfl
theorem zku (n:Nat):zcp n≠[]:=by
 intro e
 have h:=tDigits_len_ge 10 n
 rw [List.map_eq_nil_iff.mp e] at h
 exact absurd h (by decide)
theorem zps (n:Nat):NumText.digitsVal (zcp n)=n:=KIN.val_back n
theorem zpt {n:Nat} (h:n < 10 ^ 12):(zcp n).length≤12:=by
 unfold zcp;rw [List.length_map];exact digits10_le (by decide) h
noncomputable def zbT (a:Int):Prop:=-1000000000000 < a∧a < 1000000000000
theorem zhX {a:Int} (h:zbT a):(zax a).length≤13∧((zax a).length=13→(zax a).getD 0 0=45):=by
 obtain ⟨h1,h2⟩:=h
 cases a with
 | ofNat n=>
  have:=zpt (n:=n) (by rw [Int.ofNat_eq_natCast] at h2;lia)
  rw [Int.ofNat_eq_natCast,zfI]
  exact ⟨by lia,fun h=>by lia⟩
 | negSucc m=>
  have:=zpt (n:=m+1) (by lia)
  rw [zhW,List.length_cons]
  exact ⟨by lia,fun x_=>rfl⟩
theorem zdK {a:Int} (h:zbT a):okI a:=by
 refine ⟨?_,by have:=(zhX h).1;lia⟩
 obtain ⟨h1,h2⟩:=h
 unfold ze6
 rw [decide_eq_true (by lia),decide_eq_true (by lia)];rfl
theorem zjZ (a:Int):zdq (zax a)=true∧zg3 (zax a)=a:=by
 cases a with
 | ofNat n=>
  rw [Int.ofNat_eq_natCast,zfI]
  have h0:=zku n
  have h1:=zhH n
  have h2:=zps n
  have hn:¬ (zcp n).take 1=[45]:=by
   cases h:zcp n with
   | nil=>exact absurd h h0
   | cons c r=>
    rw [h,List.all_cons,Bool.and_eq_true] at h1
    intro e
    simp at e
    subst e
    exact absurd h1.1 (by decide)
  have hf:zeO (zcp n)=zcp n:=by rw [zkq,if_neg hn]
  unfold zdq zg3
  rw [hf,decide_eq_false h0,if_neg hn,h2]
  exact ⟨h1,rfl⟩
 | negSucc m=>
  rw [zhW]
  have h0:=zku (m+1)
  have h1:=zhH (m+1)
  have h2:=zps (m+1)
  have hf:zeO (45 :: zcp (m+1))=zcp (m+1):=by rw [zkq];rfl
  unfold zdq zg3
  rw [hf,decide_eq_false h0]
  refine ⟨h1,?_⟩
  show -((NumText.digitsVal (zcp (m+1)):Nat):Int)=_
  rw [h2];rfl
theorem zrS {a:Int} (h:zbT a) (q:Nat):zkr (zax a) q = .ok a q:=by
 obtain ⟨h1,h2⟩:=zjZ a
 obtain ⟨h3,h4⟩:=zhX h
 unfold zkr
 rw [h1,h2,decide_eq_false (by lia)]
 by_cases e:(zax a).length=13
 ·rw [h4 e];simp
 ·have:¬ ((zax a).length:Int)=13:=by lia
  rw [decide_eq_false this];rfl
theorem zuR {a:Int} (h1:0≤a) (h2:a < 16) (q:Nat):zn8 ([82] ++ zax a) q = .ok a q:=by
 obtain ⟨n,rfl⟩:=Int.eq_ofNat_of_zero_le h1
 have hn:n < 16:=by lia
 rw [zfI]
 have key:∀ n < 16,(!decide (slc ([82] ++ zcp n) none (some 1)=[82]) || (!zdq (slc ([82] ++ zcp n) (some 1) none) || (decide ((3:Int) < (([82] ++ zcp n).length:Int)) || decide ([([82] ++ zcp n).getD 1 0]=[45]))))=false∧
  (decide (15 < zg3 (slc ([82] ++ zcp n) (some 1) none)) || (decide ((([82] ++ zcp n).length:Int)=3) && decide ([([82] ++ zcp n).getD 1 0]=[48])))=false∧zg3 (slc ([82] ++ zcp n) (some 1) none)=(n:Int):=by decide +kernel
 obtain ⟨e1,e2,e3⟩:=key n hn
 unfold zn8
 rw [e1,e2,e3];rfl
noncomputable def zb6:List Nat→Bool
 | []=>false
 | c :: r=>(isL c || (isF c || decide ([c]=[45]))) && r.all isW
noncomputable def brk:List Nat→Bool
 | []=>true
 | c :: _=>!isW c
theorem zqq {c:Nat} (h:(isL c || (isF c || decide ([c]=[45])))=true):decide ([c]=[59])=false∧decide (c∈[32,9,13])=false∧decide (c∈[44,58,91,93])=false:=by
 have h':(97≤c∧c≤122)∨(65≤c∧c≤90)∨c=95∨(48≤c∧c≤57)∨c=45:=by
  unfold isL isF at h
  simp at h
  lia
 refine ⟨decide_eq_false ?_,decide_eq_false ?_,decide_eq_false ?_⟩ <;> simp <;> lia
theorem zyp {r s:List Nat} (h:r.all isW=true) (hb:brk s=true):(r ++ s).takeWhile isW=r∧(r ++ s).dropWhile isW=s:=by
 induction r with
 | nil=>
  cases s with
  | nil=>exact ⟨rfl,rfl⟩
  | cons c s=>
   have:isW c=false:=by unfold brk at hb;simpa using hb
   rw [List.nil_append,List.takeWhile_cons,List.dropWhile_cons,this]
   exact ⟨rfl,rfl⟩
 | cons c r ih=>
  rw [List.all_cons,Bool.and_eq_true] at h
  obtain ⟨h1,h2⟩:=ih h.2
  rw [List.cons_append,List.takeWhile_cons,List.dropWhile_cons,h.1,if_pos rfl,if_pos rfl,h1,h2]
  exact ⟨rfl,rfl⟩
theorem zby {t s:List Nat} (h:zb6 t=true) (hb:brk s=true):lex (t ++ s)=(lex s).map (t :: ·):=by
 cases t with
 | nil=>exact Bool.noConfusion h
 | cons c r=>
  unfold zb6 at h
  rw [Bool.and_eq_true] at h
  obtain ⟨h1,h2,h3⟩:=zqq h.1
  obtain ⟨h4,h5⟩:=zyp h.2 hb
  rw [List.cons_append,zgx,h1,h2,h3,h.1,h4,h5];rfl
theorem zcq {c:Nat} (s:List Nat) (h:c∈[44,58,91,93]):lex (c :: s)=(lex s).map ([c] :: ·):=by
 have:decide ([c]=[59])=false∧decide (c∈[32,9,13])=false:=by revert c;decide
 rw [zgx,this.1,this.2,decide_eq_true h];rfl
noncomputable def zkv (g:List Nat):Bool:=g.all fun c=>decide (c∈[32,9,13])
theorem ztn {c:Nat} (h:c∈[32,9,13]):decide ([c]=[59])=false∧(!isW c)=true:=by revert c;decide
theorem zbW {g:List Nat} (s:List Nat) (h:zkv g=true):lex (g ++ s)=lex s:=by
 unfold zkv at h
 induction g with
 | nil=>rfl
 | cons c g ih=>
  rw [List.all_cons,Bool.and_eq_true] at h
  have h1:=of_decide_eq_true h.1
  rw [List.cons_append,zgx,(ztn h1).1,h.1,cond_false,cond_true]
  exact ih h.2
theorem zm2 (s:List Nat):lex (59 :: s)=some []:=by rw [zgx];rfl
noncomputable abbrev zn9:List (List Nat):=[[44],[58],[91],[93]]
noncomputable def zeq (t:List Nat):Bool:=zb6 t || decide (t∈zn9)
theorem znq {t s:List Nat} (h:zeq t=true) (hb:brk s=true):lex (t ++ s)=(lex s).map (t :: ·):=by
 unfold zeq at h
 rcases Bool.or_eq_true_iff.mp h with h | h
 ·exact zby h hb
 ·have:=of_decide_eq_true h
  simp only [List.mem_cons,List.not_mem_nil,or_false] at this
  rcases this with rfl | rfl | rfl | rfl <;> exact zcq s (by decide)
theorem zto {g s:List Nat} (h:zkv g=true) (hn:g≠[]):brk (g ++ s)=true:=by
 cases g with
 | nil=>exact absurd rfl hn
 | cons c g=>
  unfold zkv at h
  rw [List.all_cons,Bool.and_eq_true] at h
  have h1:=of_decide_eq_true h.1
  exact (ztn h1).2
theorem zmo {g:List Nat} (hg:zkv g=true) (hn:g≠[]):∀ (ws:List (List Nat)) {s:List Nat},(∀ w∈ws,zeq w=true)→brk s=true→lex (zaV g ws ++ s)=(lex s).map (ws ++ ·)
 | [],s,_,_=>by rw [zfF,List.nil_append];cases lex s <;> rfl
 | [w],s,h,hb=>by rw [zdc,znq (h w (List.mem_cons_self ..)) hb];rfl
 | w :: z :: ws,s,h,hb=>by
  rw [zcG,List.append_assoc,List.append_assoc,znq (h w (List.mem_cons_self ..)) (zto hg hn),zbW _ hg,zmo hg hn (z :: ws) (fun x hx=>h x (List.mem_cons_of_mem _ hx)) hb,Option.map_map];rfl
noncomputable def zyq:List (List Nat)→List (List Nat)
 | []=>[]
 | [w]=>[w]
 | w :: z :: ws=>w :: [44] :: zyq (z :: ws)
theorem zpu:∀ (ws:List (List Nat)) {s:List Nat},(∀ w∈ws,zb6 w=true)→brk s=true→lex (zaV [44,32] ws ++ s)=(lex s).map (zyq ws ++ ·)
 | [],s,_,_=>by rw [zfF,List.nil_append];cases lex s <;> rfl
 | [w],s,h,hb=>by rw [zdc,zby (h w (List.mem_cons_self ..)) hb];rfl
 | w :: z :: ws,s,h,hb=>by
  rw [zcG,List.append_assoc,List.append_assoc,zby (h w (List.mem_cons_self ..)) rfl]
  show (lex (44 :: ([32] ++ (zaV [44,32] (z :: ws) ++ s)))).map _=_
  rw [zcq _ (by decide),zbW _ (by decide),zpu (z :: ws) (fun x hx=>h x (List.mem_cons_of_mem _ hx)) hb,Option.map_map,Option.map_map];rfl
theorem zlA (n:Nat):(zcp n).all isW=true:=by
 have h:=zhH n
 rw [List.all_eq_true] at h ⊢
 intro c hc
 unfold isW;rw [h c hc,Bool.or_true]
theorem zfJ (a:Int):zb6 (zax a)=true:=by
 cases a with
 | ofNat n=>
  rw [Int.ofNat_eq_natCast,zfI]
  have h0:=zku n
  have h1:=zhH n
  have h2:=zlA n
  cases h:zcp n with
  | nil=>exact absurd h h0
  | cons c r=>
   rw [h,List.all_cons,Bool.and_eq_true] at h1 h2
   show ((isL c || (isF c || decide ([c]=[45]))) && r.all isW)=true
   rw [h1.1,h2.2];simp
 | negSucc m=>
  rw [zhW]
  show ((isL 45 || (isF 45 || decide ([45]=[45]))) && (zcp (m+1)).all isW)=true
  rw [zlA];rfl
theorem znr {p:List Nat} {n:Nat} (h:zb6 p=true):zb6 (p ++ zax (n:Int))=true:=by
 cases p with
 | nil=>exact Bool.noConfusion h
 | cons c r=>
  unfold zb6 at h
  rw [Bool.and_eq_true] at h
  rw [zfI]
  show (_ && (r ++ zcp n).all isW)=true
  rw [List.all_append,h.1,h.2,zlA];rfl
theorem zhI {a:Int} (h:0≤a):zb6 ([82] ++ zax a)=true:=by
 obtain ⟨n,rfl⟩:=Int.eq_ofNat_of_zero_le h
 exact znr (by decide)
theorem ztp {a b:Int} (h:zax a=zax b):a=b:=by rw [← (zjZ a).2,← (zjZ b).2,h]
noncomputable def Rw.snd:Rw→Bool
 | .reg n a b c=>zgU n a b c
 | .br n _ b c=>zf8 n b c
noncomputable def Rw.fine (r:Rw):Prop:=r.form∧r.snd=true
structure NF (n:List Nat) (o i m h g x y:Bool):Prop where
 op:decide (n∈OPS)=o
 im:decide (zeB n=[])=i
 mem:decide (n∈zeN)=m
 mel:decide (n∈zhD)=m
 mh:decide (n=zcb)=h
 gh:decide (n=zbN)=g
 gm:decide (n∈[zbN,zcb])=(h || g)
 mg:decide (n∈[zcb,zbN])=(h || g)
 mov:decide (n∈[zhy,zf4,zcb,zbN])=x
 mv:decide (n∈[zhy,zf4])=y
 wk:zb6 n=true
 br:decide (n∈BRS)=false
 le:n.length≤4
noncomputable def nfB (n:List Nat) (op im mem mh gh mov mv:Bool):Bool:=
 (decide (n∈OPS) == op) && (decide (zeB n=[]) == im) && (decide (n∈zeN) == mem) && (decide (n∈zhD) == mem) && (decide (n=zcb) == mh) && (decide (n=zbN) == gh) && (decide (n∈[zbN,zcb]) == (mh || gh)) && (decide (n∈[zcb,zbN]) == (mh || gh)) && (decide (n∈[zhy,zf4,zcb,zbN]) == mov) && (decide (n∈[zhy,zf4]) == mv) && zb6 n && (decide (n∈BRS) == false) && decide (n.length≤4)
theorem zi3 {n:List Nat} {op im mem mh gh mov mv:Bool} (h:nfB n op im mem mh gh mov mv=true):NF n op im mem mh gh mov mv:=by
 unfold nfB at h
 simp only [Bool.and_eq_true,beq_iff_eq] at h
 obtain ⟨⟨⟨⟨⟨⟨⟨⟨⟨⟨⟨⟨h1,h2⟩,h3⟩,h4⟩,h5⟩,h6⟩,h7⟩,h8⟩,h9⟩,h10⟩,h11⟩,h12⟩,h13⟩:=h
 exact ⟨h1,h2,h3,h4,h5,h6,h7,h8,h9,h10,h11,h12,of_decide_eq_true h13⟩
theorem zyr:∀ n∈zfA,(nfB n true true false false false false false || (nfB n true true false false false true true || (nfB n false false false false false false false || (nfB n false false false false false true true || (nfB n false true true false false false false || (nfB n false true false true false true false || nfB n false true false false true true false))))))=true:=by decide +kernel
theorem zkw {n:List Nat} (h:n∈zfA):NF n true true false false false false false∨NF n true true false false false true true∨NF n false false false false false false false∨NF n false false false false false true true∨NF n false true true false false false false∨NF n false true false true false true false∨NF n false true false false true true false:=by
 have:=zyr n h
 simp only [Bool.or_eq_true] at this
 rcases this with h | h | h | h | h | h | h
 ·exact .inl (zi3 h)
 ·exact .inr (.inl (zi3 h))
 ·exact .inr (.inr (.inl (zi3 h)))
 ·exact .inr (.inr (.inr (.inl (zi3 h))))
 ·exact .inr (.inr (.inr (.inr (.inl (zi3 h)))))
 ·exact .inr (.inr (.inr (.inr (.inr (.inl (zi3 h))))))
 ·exact .inr (.inr (.inr (.inr (.inr (.inr (zi3 h))))))
theorem zcT {lo v hi:Int}:rng lo v hi=true↔lo≤v∧v < hi:=by unfold rng;simp
theorem zci {lo v hi:Int}:zbO v lo hi=true↔lo≤v∧v≤hi:=by unfold zbO;simp
structure zrT (a b c:Int) (mov:Bool) (lo hi:Int):Prop where
 a0:0≤a
 a1:a < 16
 b0:0≤b
 b1:b < 16
 bz:mov=true→b=0
 c0:lo≤c
 c1:c < hi
theorem zeQ {n:List Nat} {op im mem mh gh mov mv:Bool} (f:NF n op im mem mh gh mov mv) {a b c:Int} (h:zgU n a b c=true) :
  zrT a b c mov (bif mem then -524288 else bif mh || gh then 0 else bif op then 0 else -65536) (bif mem then 524288 else bif mh || gh then (bif gh then 1 else 65536) else bif op then 16 else 65536):=by
 unfold zgU at h
 rw [f.mov,f.mel,f.gm,f.gh,f.op] at h
 cases h1:(!rng 0 a 16 || (!rng 0 b 16 || (mov && !decide (b=0)))) with
 | true=>rw [h1] at h;exact Bool.noConfusion h
 | false=>
  rw [h1,cond_false] at h
  simp only [Bool.or_eq_false_iff,Bool.not_eq_false',zcT] at h1
  obtain ⟨⟨q1,q2⟩,⟨q3,q4⟩,q5⟩:=h1
  have hb:mov=true→b=0:=fun e=>by rw [e] at q5;simpa using q5
  have hc:rng (bif mem then -524288 else bif mh || gh then 0 else bif op then 0 else -65536) c (bif mem then 524288 else bif mh || gh then (bif gh then 1 else 65536) else bif op then 16 else 65536)=true:=by
   cases mem <;> cases mh <;> cases gh <;> cases op <;> exact h
  rw [zcT] at hc
  exact ⟨q1,q2,q3,q4,hb,hc.1,hc.2⟩
theorem zuS {a b c:Int} {mov:Bool} {lo hi:Int} (s:zrT a b c mov lo hi) (h1:-1000000≤lo) (h2:hi≤1000000):zbT a∧zbT b∧zbT c:=by
 obtain ⟨_,_,_,_,_,_,_⟩:=s
 unfold zbT;lia
theorem zns {n:List Nat} (hn:n∈zfA) {a b c:Int} (h:zgU n a b c=true):zda n a b c=[]:=by
 have key:∀ {op im mem mh gh mov mv:Bool},NF n op im mem mh gh mov mv→(im=false→op=false)→(mem=true→(op=false∧im=true∧mh=false∧gh=false∧mov=false))→(mem=false→(op=true∨im=false∨mh=true∨gh=true))→(gh=true→mh=false∧op=false)→(mh=true→op=false)→zda n a b c=[]:=by
  intro op im mem mh gh mov mv f q1 q2 q3 q4 q5
  have s:=zeQ f h
  obtain ⟨a0,a1,b0,b1,bz,c0,c1⟩:=s
  have ra:zeA a=true:=zci.mpr ⟨a0,by lia⟩
  have rb:zeA b=true:=zci.mpr ⟨b0,by lia⟩
  have hb:(mov && !decide (b=0))=false:=by
   cases mov with
   | false=>rfl
   | true=>rw [bz rfl];rfl
  unfold zda zrF zko ziU
  rw [f.mg,f.op,f.im,f.mem,f.mov,f.gh,f.mh,ra,rb,hb]
  cases mem with
  | true=>
   obtain ⟨e1,e2,e3,e4,e5⟩:=q2 rfl
   subst e1 e2 e3 e4
   have:zbO c (-524288) 524287=true:=zci.mpr ⟨c0,by have:c < 524288:=c1;lia⟩
   rw [this];rfl
  | false=>
   cases gh with
   | true=>
    obtain ⟨e1,e2⟩:=q4 rfl
    subst e1 e2
    have:zbO c 0 0=true:=zci.mpr ⟨c0,by have:c < 1:=c1;lia⟩
    rw [this];rfl
   | false=>cases mh with
    | true=>
     have e2:=q5 rfl
     subst e2
     have:zbO c 0 65535=true:=zci.mpr ⟨c0,by have:c < 65536:=c1;lia⟩
     rw [this];rfl
    | false=>cases op with
     | true=>
      have:zeA c=true:=zci.mpr ⟨c0,by have:c < 16:=c1;lia⟩
      rw [this];rfl
     | false=>
      have e:im=false:=by rcases q3 rfl with h | h | h | h <;> simp_all
      subst e
      have:zbO c (-65536) 65535=true:=zci.mpr ⟨c0,by have:c < 65536:=c1;lia⟩
      rw [this];rfl
 rcases zkw hn with f | f | f | f | f | f | f <;> exact key f (by decide) (by decide) (by decide) (by decide) (by decide)
theorem zpv {n cond:List Nat} (hn:n∈BRS) (hc:cond∈zcD) {b c:Int} (h:zf8 n b c=true):zcR n cond b c=[]:=by
 unfold zf8 at h
 unfold zcR
 rw [decide_eq_true hc]
 simp only [BRS,List.mem_cons,List.not_mem_nil,or_false] at hn
 rcases hn with rfl | rfl | rfl | rfl | rfl
 ·change (rng _ _ _ && _)=true at h
  rw [Bool.and_eq_true,zcT,decide_eq_true_eq] at h
  obtain ⟨⟨h1,h2⟩,rfl⟩:=h
  have:zbO b (-8388608) 8388607=true:=zci.mpr ⟨h1,by lia⟩
  show (bif zbO b (-8388608) 8388607 then [] else _)=_
  rw [this];rfl
 ·change (rng _ _ _ && _)=true at h
  rw [Bool.and_eq_true,zcT,decide_eq_true_eq] at h
  obtain ⟨⟨h1,h2⟩,rfl⟩:=h
  have:zbO b (-8388608) 8388607=true:=zci.mpr ⟨h1,by lia⟩
  show (bif zbO b (-8388608) 8388607 then [] else _)=_
  rw [this];rfl
 ·change (rng _ _ _ && (decide (c=0) && _))=true at h
  rw [Bool.and_eq_true,zcT,Bool.and_eq_true,decide_eq_true_eq] at h
  obtain ⟨⟨h1,h2⟩,rfl,_⟩:=h
  have:zeA b=true:=zci.mpr ⟨h1,by lia⟩
  show (bif !zeA b || (false && decide (b=12)) then _ else [])=_
  rw [this];rfl
 ·change (rng _ _ _ && (decide (c=0) && (false || !decide (b=12))))=true at h
  rw [Bool.and_eq_true,zcT,Bool.and_eq_true,decide_eq_true_eq,Bool.false_or] at h
  obtain ⟨⟨h1,h2⟩,rfl,h3⟩:=h
  have:zeA b=true:=zci.mpr ⟨h1,by lia⟩
  show (bif !zeA b || (true && decide (b=12)) then _ else [])=_
  rw [this,show decide (b=12)=false by simpa using h3];rfl
 ·change (rng _ _ _ && rng _ _ _)=true at h
  rw [Bool.and_eq_true,zcT,zcT] at h
  have h1:zbO b 0 15=true:=zci.mpr ⟨h.1.1,by lia⟩
  have h2:zbO c 0 65535=true:=zci.mpr ⟨h.2.1,by lia⟩
  show (bif !zbO b 0 15 then _ else bif zbO c 0 65535 then [] else _)=_
  rw [h1,h2];rfl
theorem zgB {n:List Nat} (hn:n∈BRS) {b c:Int} (h:zf8 n b c=true):zbT b∧zbT c∧((decide (n=sB) || decide (n=sBL))=true→c=0∧-8388608≤b∧b < 8388608)∧((decide (n=sBR) || decide (n=zdi))=true→c=0∧0≤b∧b < 16)∧(n=zcg→0≤b∧b < 16∧0≤c):=by
 unfold zf8 at h
 simp only [BRS,List.mem_cons,List.not_mem_nil,or_false] at hn
 unfold zbT
 rcases hn with rfl | rfl | rfl | rfl | rfl
 ·change (rng _ _ _ && _)=true at h
  rw [Bool.and_eq_true,zcT,decide_eq_true_eq] at h
  exact ⟨by lia,by lia,fun x_=>by lia,fun h=>absurd h (by decide),fun h=>absurd h (by decide)⟩
 ·change (rng _ _ _ && _)=true at h
  rw [Bool.and_eq_true,zcT,decide_eq_true_eq] at h
  exact ⟨by lia,by lia,fun x_=>by lia,fun h=>absurd h (by decide),fun h=>absurd h (by decide)⟩
 ·change (rng _ _ _ && (decide (c=0) && _))=true at h
  rw [Bool.and_eq_true,zcT,Bool.and_eq_true,decide_eq_true_eq] at h
  exact ⟨by lia,by lia,fun h=>absurd h (by decide),fun x_=>by lia,fun h=>absurd h (by decide)⟩
 ·change (rng _ _ _ && (decide (c=0) && _))=true at h
  rw [Bool.and_eq_true,zcT,Bool.and_eq_true,decide_eq_true_eq] at h
  exact ⟨by lia,by lia,fun h=>absurd h (by decide),fun x_=>by lia,fun h=>absurd h (by decide)⟩
 ·change (rng _ _ _ && rng _ _ _)=true at h
  rw [Bool.and_eq_true,zcT,zcT] at h
  exact ⟨by lia,by lia,fun h=>absurd h (by decide),fun h=>absurd h (by decide),fun x_=>by lia⟩
theorem zj0 {n:List Nat} (hn:n∈zfA) {a b c:Int} (h:zgU n a b c=true):zbT a∧zbT b∧zbT c:=by
 rcases zkw hn with f | f | f | f | f | f | f <;> exact zuS (zeQ f h) (by decide) (by decide)
theorem zd7 {r:Rw} (h:r.fine):r.good:=by
 obtain ⟨h1,h2⟩:=h
 cases r with
 | reg n a b c=>
  obtain ⟨sa,sb,sc⟩:=zj0 h1 h2
  exact ⟨h1,zdK sa,zdK sb,zdK sc⟩
 | br n cond b c=>
  obtain ⟨sb,sc,_⟩:=zgB h1.1 h2
  exact ⟨h1,zdK sb,zdK sc⟩
theorem zpw {rows:List Rw} (hl:rows.length≤100) (i:Nat):okI (za5 rows i):=by
 obtain ⟨h1,h2⟩:=zhG rows i
 exact zdK ⟨by lia,by lia⟩
theorem zmp {i:Nat} (h:i≤1000000):okI (i:Int):=zdK ⟨by lia,by lia⟩
section
variable {toks:List (List Nat)} {p:Nat} {t:List Nat}
theorem zpx (h:toks[p]? = some t):p < toks.length:=(List.getElem?_eq_some_iff.mp h).1
theorem zd0 (h:toks[p]? = some t):zbn toks p=t∧zdO toks p=p+1:=by
 unfold zbn zdO;rw [h,if_pos (zpx h)];exact ⟨rfl,rfl⟩
theorem zeR {a:Int} (h:toks[p]? = some ([82] ++ zax a)) (h1:0≤a) (h2:a < 16):zbv toks p = .ok a (p+1):=by
 unfold zbv;rw [(zd0 h).1,(zd0 h).2,zuR h1 h2]
theorem zlB {a:Int} (h:toks[p]? = some (zax a)) (h1:zbT a):zf6 toks p = .ok a (p+1):=by
 unfold zf6;rw [(zd0 h).1,(zd0 h).2,zrS h1]
theorem zfK (h:toks[p]? = some t):zdX toks p t = .ok () (p+1):=by
 unfold zdX;rw [(zd0 h).1,(zd0 h).2,decide_eq_true rfl];rfl
theorem ziF {a:Int} (h0:toks[p]? = some [44]) (h:toks[p+1]? = some ([82] ++ zax a)) (h1:0≤a) (h2:a < 16):zbs toks p = .ok a (p+2):=by
 unfold zbs;rw [zfK h0];exact zeR h h1 h2
theorem zgW {a:Int} (h0:toks[p]? = some [44]) (h:toks[p+1]? = some (zax a)) (h1:zbT a):zbP toks p = .ok a (p+2):=by
 unfold zbP;rw [zfK h0];exact zlB h h1
theorem zkx (h:toks[p]? = some t) (hc:t∈zcD):zcF toks p = .ok t (p+1):=by
 unfold zcF;rw [(zd0 h).1,(zd0 h).2,decide_eq_true hc];rfl
theorem zuT (a:Int):isL ((zax a).getD 0 0)=false:=by
 cases a with
 | ofNat n=>
  rw [Int.ofNat_eq_natCast,zfI]
  have h0:=zku n
  have h1:=zhH n
  cases h:zcp n with
  | nil=>exact absurd h h0
  | cons c r=>
   rw [h,List.all_cons,Bool.and_eq_true] at h1
   have h2:=h1.1
   show isL c=false
   unfold isF at h2
   unfold isL
   simp at h2 ⊢
   lia
 | negSucc m=>rw [zhW];rfl
theorem zrU {a:Int} (h0:toks[p]? = some [44]) (h:toks[p+1]? = some (zax a)) (h1:zbT a):zdY toks p = .ok (.int a) (p+2):=by
 unfold zdY;rw [zfK h0]
 show (bif _ && isL ((zbn toks (p+1)).getD 0 0) then _ else (zf6 toks (p+1)).bind _)=_
 rw [(zd0 h).1,zuT,Bool.and_false,zlB h h1];rfl
theorem zrV (h0:toks[p]? = some [44]) (h:toks[p+1]? = some t) (h1:isL (t.getD 0 0)=true):zdY toks p = .ok (.str t) (p+2):=by
 unfold zdY;rw [zfK h0]
 show (bif decide (((p+1:Nat):Int) < ((toks.map D.str).length:Int)) && isL ((zbn toks (p+1)).getD 0 0) then PR.ok (D.str (zbn toks (p+1))) (zdO toks (p+1)) else _)=_
 rw [(zd0 h).1,(zd0 h).2,h1,decide_eq_true (by rw [List.length_map];have:=zpx h;lia)];rfl
theorem PR.bind_ok {α β:Type} (a:α) (p:Nat) (k:α→Nat→PR β):(PR.ok a p).bind k=k a p:=rfl
theorem zdv {d:D} (h:zdD toks 0 = .ok d p) (hl:toks.length=p):ze8 toks = .ok d:=by
 have e:zhl toks p = .ok () p:=by unfold zhl;rw [decide_eq_false (by rw [List.length_map];lia)];rfl
 unfold ze8
 rw [h,PR.bind_ok,e];rfl
theorem zcZ (h:toks[0]? = some t):zdD toks 0=zeC toks t 1:=by unfold zdD;rw [(zd0 h).1,(zd0 h).2]
end
theorem zky {n:List Nat} {op im mh gh mov mv:Bool} (f:NF n op im false mh gh mov mv) {a b c:Int} (s:zrT a b c mov (bif mh || gh then 0 else bif op then 0 else -65536) (bif mh || gh then (bif gh then 1 else 65536) else bif op then 16 else 65536))
  (q:(op=true∧im=true∧mh=false∧gh=false∧mov=mv)∨(op=false∧im=false∧mh=false∧gh=false∧mov=mv)∨(op=false∧im=true∧mh=true∧gh=false∧mov=true)∨(op=false∧im=true∧mh=false∧gh=true∧mov=true)) :
  ze8 (zf9 n a b c) = .ok (za9 n (.int a) (.int b) (.int c)):=by
 obtain ⟨a0,a1,b0,b1,bz,c0,c1⟩:=s
 unfold zf9 ziD
 rw [f.mov,f.gh,f.op]
 rcases q with ⟨rfl,rfl,rfl,rfl,rfl⟩ | ⟨rfl,rfl,rfl,rfl,rfl⟩ | ⟨rfl,rfl,rfl,rfl,rfl⟩ | ⟨rfl,rfl,rfl,rfl,rfl⟩
 ·replace c0:0≤c:=c0
  replace c1:c < 16:=c1
  cases mov
  ·refine zdv (p:=6) ?_ rfl
   rw [zcZ rfl]
   unfold zeC zcA zgS
   rw [f.op,f.im,f.mv]
   show (zbv _ 1).bind _=_
   rw [zeR (p:=1) rfl a0 a1,PR.bind_ok]
   show (zbs _ 2).bind _=_
   rw [ziF (p:=2) rfl rfl b0 b1,PR.bind_ok]
   show (zbs _ 4).bind _=_
   rw [ziF (p:=4) rfl rfl c0 c1];rfl
  ·have:=bz rfl
   subst this
   refine zdv (p:=4) ?_ rfl
   rw [zcZ rfl]
   unfold zeC zcA zgS
   rw [f.op,f.im,f.mv]
   show (zbv _ 1).bind _=_
   rw [zeR (p:=1) rfl a0 a1,PR.bind_ok]
   show (zbs _ 2).bind _=_
   rw [ziF (p:=2) rfl rfl c0 c1];rfl
 ·replace c0:-65536≤c:=c0
  replace c1:c < 65536:=c1
  have hs:zbT c:=⟨by lia,by lia⟩
  cases mov
  ·refine zdv (p:=6) ?_ rfl
   rw [zcZ rfl]
   unfold zeC zcA zgS
   rw [f.op,f.im,f.mv]
   show (zbv _ 1).bind _=_
   rw [zeR (p:=1) rfl a0 a1,PR.bind_ok]
   show (zbs _ 2).bind _=_
   rw [ziF (p:=2) rfl rfl b0 b1,PR.bind_ok]
   show (zbP _ 4).bind _=_
   rw [zgW (p:=4) rfl rfl hs];rfl
  ·have:=bz rfl
   subst this
   refine zdv (p:=4) ?_ rfl
   rw [zcZ rfl]
   unfold zeC zcA zgS
   rw [f.op,f.im,f.mv]
   show (zbv _ 1).bind _=_
   rw [zeR (p:=1) rfl a0 a1,PR.bind_ok]
   show (zbP _ 2).bind _=_
   rw [zgW (p:=2) rfl rfl hs];rfl
 ·replace c0:0≤c:=c0
  replace c1:c < 65536:=c1
  have hs:zbT c:=⟨by lia,by lia⟩
  have:=bz rfl
  subst this
  refine zdv (p:=4) ?_ rfl
  rw [zcZ rfl]
  unfold zeC
  rw [f.op,f.im,f.mh]
  show (zbv _ 1).bind _=_
  rw [zeR (p:=1) rfl a0 a1,PR.bind_ok]
  show (zbP _ 2).bind _=_
  rw [zgW (p:=2) rfl rfl hs];rfl
 ·replace c0:0≤c:=c0
  replace c1:c < 1:=c1
  have:=bz rfl
  subst this
  have:c=0:=by lia
  subst this
  refine zdv (p:=2) ?_ rfl
  rw [zcZ rfl]
  unfold zeC
  rw [f.op,f.im,f.mh,f.gh]
  show (zbv _ 1).bind _=_
  rw [zeR (p:=1) rfl a0 a1];rfl
theorem zzr {n:List Nat} (f:NF n false true true false false false false) {a b c:Int} {lo hi:Int} (s:zrT a b c false lo hi) (hs:zbT c) {long:Bool} (hl:c=0∨long=true):ze8 (ziC n a b c long) = .ok (za9 n (.int a) (.int b) (.int c)):=by
 obtain ⟨a0,a1,b0,b1,_,_,_⟩:=s
 cases long
 ·have:c=0:=by rcases hl with h | h;exact h;exact Bool.noConfusion h
  subst this
  refine zdv (p:=6) ?_ rfl
  rw [zcZ rfl]
  unfold zeC zfj
  rw [f.op,f.im,f.mh,f.gh,f.mem]
  show (zbv _ 1).bind _=_
  rw [zeR (p:=1) rfl a0 a1,PR.bind_ok]
  show (zdX _ 2 _).bind _=_
  rw [zfK (p:=2) rfl,PR.bind_ok,zfK (p:=3) rfl,PR.bind_ok]
  show (zbv _ 4).bind _=_
  rw [zeR (p:=4) rfl b0 b1,PR.bind_ok];rfl
 ·refine zdv (p:=8) ?_ rfl
  rw [zcZ rfl]
  unfold zeC zfj
  rw [f.op,f.im,f.mh,f.gh,f.mem]
  show (zbv _ 1).bind _=_
  rw [zeR (p:=1) rfl a0 a1,PR.bind_ok]
  show (zdX _ 2 _).bind _=_
  rw [zfK (p:=2) rfl,PR.bind_ok,zfK (p:=3) rfl,PR.bind_ok]
  show (zbv _ 4).bind _=_
  rw [zeR (p:=4) rfl b0 b1,PR.bind_ok]
  show (zf6 _ 6).bind _=_
  rw [zlB (p:=6) rfl hs];rfl
noncomputable def drf (n cond:List Nat) (b c:Int):Option (List Nat)→D
 | some m=>bif decide (n∈[sB,sBL]) then za9 n (.str cond) (.str m) (.int 0) else za9 n (.str cond) (.int b) (.int c)
 | none=>za9 n (.str cond) (.int b) (.int c)
noncomputable def zdF (m:List Nat):Prop:=zb6 m=true∧isL (m.getD 0 0)=true∧m.length≤200
theorem zzs {n cond:List Nat} (hn:n∈BRS) (hc:cond∈zcD) {b c:Int} (h:zf8 n b c=true) {mark:Option (List Nat)} (hm:∀ m,mark=some m→zdF m):ze8 (zdk n cond b c mark) = .ok (drf n cond b c mark):=by
 obtain ⟨sb,sc,h1,h2,h3⟩:=zgB hn h
 simp only [BRS,List.mem_cons,List.not_mem_nil,or_false] at hn
 have hB:∀ n,n=sB∨n=sBL→c=0→ze8 (zdk n cond b c mark) = .ok (drf n cond b c mark):=by
  intro n hn hc0
  have e:zdk n cond b c mark=[n,cond,[44],mark.getD (zax b)]:=by rcases hn with rfl | rfl <;> rfl
  have e2:∀ toks,zeC toks n 1=(zcF toks 1).bind fun c p=>(zdY toks p).bind fun t p=>.ok (za9 n (.str c) t (.int 0)) p:=by intro toks;rcases hn with rfl | rfl <;> rfl
  rw [e]
  cases mark with
  | none=>
   refine zdv (p:=4) ?_ rfl
   rw [zcZ rfl,e2,zkx (p:=1) rfl hc,PR.bind_ok]
   show (zdY _ 2).bind _=_
   rw [zrU (p:=2) rfl rfl sb,hc0];rfl
  | some m=>
   have hd:drf n cond b c (some m)=za9 n (.str cond) (.str m) (.int 0):=by rcases hn with rfl | rfl <;> rfl
   rw [hd]
   refine zdv (p:=4) ?_ rfl
   rw [zcZ rfl,e2,zkx (p:=1) rfl hc,PR.bind_ok]
   show (zdY _ 2).bind _=_
   rw [zrV (p:=2) rfl rfl (hm m rfl).2.1];rfl
 have hR:∀ n,n=sBR∨n=zdi→c=0→0≤b→b < 16→ze8 (zdk n cond b c mark) = .ok (drf n cond b c mark):=by
  intro n hn hc0 hb0 hb1
  have e:zdk n cond b c mark=[n,cond,[44],[82] ++ zax b]:=by rcases hn with rfl | rfl <;> rfl
  have e2:∀ toks,zeC toks n 1=(zcF toks 1).bind fun c p=>(zbs toks p).bind fun t p=>.ok (za9 n (.str c) (.int t) (.int 0)) p:=by intro toks;rcases hn with rfl | rfl <;> rfl
  have hd:drf n cond b c mark=za9 n (.str cond) (.int b) (.int c):=by cases mark <;> rcases hn with rfl | rfl <;> rfl
  rw [e,hd,hc0]
  refine zdv (p:=4) ?_ rfl
  rw [zcZ rfl,e2,zkx (p:=1) rfl hc,PR.bind_ok]
  show (zbs _ 2).bind _=_
  rw [ziF (p:=2) rfl rfl hb0 hb1];rfl
 rcases hn with rfl | rfl | rfl | rfl | rfl
 ·exact hB _ (.inl rfl) (h1 rfl).1
 ·exact hB _ (.inr rfl) (h1 rfl).1
 ·exact hR _ (.inl rfl) (h2 rfl).1 (h2 rfl).2.1 (h2 rfl).2.2
 ·exact hR _ (.inr rfl) (h2 rfl).1 (h2 rfl).2.1 (h2 rfl).2.2
 ·have hd:drf zcg cond b c mark=za9 zcg (.str cond) (.int b) (.int c):=by cases mark <;> rfl
  rw [hd]
  show ze8 [zcg,cond,[44],zax b,[44],zax c]=_
  refine zdv (p:=6) ?_ rfl
  rw [zcZ rfl]
  show (zcF _ 1).bind _=_
  rw [zkx (p:=1) rfl hc,PR.bind_ok]
  show (zbP _ 2).bind _=_
  rw [zgW (p:=2) rfl rfl sb,PR.bind_ok]
  show (zbP _ 4).bind _=_
  rw [zgW (p:=4) rfl rfl sc];rfl
noncomputable def Rw.drf:Rw→Option (List Nat)→D
 | .reg n a b c,_=>za9 n (.int a) (.int b) (.int c)
 | .br n cond b c,m=>Mine.Internal.drf n cond b c m
noncomputable def zcM (r:Rw) (mark:Option (List Nat)) (long:Bool):List (List Nat):=match r with
 | .reg n a b c=>bif decide (n∈zhD) then ziC n a b c long else zf9 n a b c
 | .br n cond b c=>zdk n cond b c mark
noncomputable def Rw.lowZ (r:Rw) (long:Bool):Prop:=match r with
 | .reg n _ _ c=>decide (n∈zhD)=true→c=0∨long=true
 | .br _ _ _ _=>True
theorem znt {r:Rw} (h:r.fine) {mark:Option (List Nat)} (hm:∀ m,mark=some m→zdF m) {long:Bool} (hl:r.lowZ long):ze8 (zcM r mark long) = .ok (r.drf mark):=by
 obtain ⟨h1,h2⟩:=h
 cases r with
 | reg n a b c=>
  have hs:=(zj0 h1 h2).2.2
  unfold zcM
  dsimp only
  rcases zkw h1 with f | f | f | f | f | f | f <;> rw [f.mel]
  ·exact zky f (zeQ f h2) (by decide)
  ·exact zky f (zeQ f h2) (by decide)
  ·exact zky f (zeQ f h2) (by decide)
  ·exact zky f (zeQ f h2) (by decide)
  ·exact zzr f (zeQ f h2) hs (hl f.mel)
  ·exact zky f (zeQ f h2) (by decide)
  ·exact zky f (zeQ f h2) (by decide)
 | br n cond b c=>exact zzs h1.1 h1.2 h2 hm
noncomputable def zfv (w:List Nat):Prop:=zeq w=true∧w.length≤200
theorem zhY {a:Int} (h:0≤a) (hs:zbT a):zfv ([82] ++ zax a):=⟨by unfold zeq;rw [zhI h];rfl,by rw [List.length_append];have:=(zhX hs).1;simp;lia⟩
theorem zj1 {a:Int} (hs:zbT a):zfv (zax a):=⟨by unfold zeq;rw [zfJ];rfl,by have:=(zhX hs).1;lia⟩
theorem zhg {w:List Nat} (h:zb6 w=true) (hl:w.length≤200):zfv w:=⟨by unfold zeq;rw [h];rfl,hl⟩
theorem zid {c:List Nat} (h:c∈zcD):zb6 c=true∧c.length≤200∧c≠[58]:=by revert c;decide +kernel
theorem zi4 {c:List Nat} (h:c∈BRS):zb6 c=true∧c.length≤200:=by revert c;decide +kernel
theorem zpy {n:List Nat} (h:n∈BRS):decide (n=zcg)=false→decide (n∈[sB,sBL])=false→(decide (n=sBR) || decide (n=zdi))=true:=by revert n;decide
theorem zrW {w:List Nat} (h:w∈zn9):zfv w:=by
 refine ⟨by unfold zeq;rw [decide_eq_true h,Bool.or_true],?_⟩
 revert w;decide
theorem zie {r:Rw} (h:r.fine) {mark:Option (List Nat)} (hm:∀ m,mark=some m→zdF m) (long:Bool):(∀ w∈zcM r mark long,zfv w)∧(zcM r mark long).length≤8∧∃ n t u,zcM r mark long=n :: t :: u∧t≠[58]:=by
 obtain ⟨h1,h2⟩:=h
 have sg:∀ w∈zn9,zfv w:=fun w h=>zrW h
 have sg1:=sg [44] (by decide)
 have sg2:=sg [91] (by decide)
 have sg3:=sg [93] (by decide)
 cases r with
 | reg n a b c=>
  obtain ⟨sa,sb,sc⟩:=zj0 h1 h2
  have key:∀ {op im mem mh gh mov mv:Bool},NF n op im mem mh gh mov mv→(op=true→mem=false∧mh=false∧gh=false)→(∀ w∈zcM (.reg n a b c) mark long,zfv w)∧(zcM (.reg n a b c) mark long).length≤8∧∃ n' t u,zcM (.reg n a b c) mark long=n' :: t :: u∧t≠[58]:=by
   intro op im mem mh gh mov mv f q
   obtain ⟨a0,a1,b0,b1,bz,c0,c1⟩:=zeQ f h2
   have pn:zfv n:=zhg f.wk (by have:=f.le;lia)
   have pa:=zhY a0 sa
   have pb:=zhY b0 sb
   have pc:=zj1 sc
   have hR:∀ x:List Nat,[82] ++ x≠[58]:=fun x e=>by simp at e
   unfold zcM
   dsimp only
   rw [f.mel]
   cases mem with
   | true=>
    rw [cond_true]
    unfold ziC
    refine ⟨?_,?_,n,[82] ++ zax a,_,rfl,hR _⟩
    ·cases long <;> simp only [cond_true,cond_false,List.cons_append,List.nil_append,List.mem_cons,List.not_mem_nil,or_false] <;> rintro w (rfl | rfl | rfl | rfl | rfl | rfl | rfl | rfl) <;> assumption
    ·cases long <;> simp
   | false=>
    rw [cond_false]
    unfold zf9 ziD
    rw [f.mov,f.gh,f.op]
    refine ⟨?_,?_,?_⟩
    ·cases op with
     | true=>
      obtain ⟨_,rfl,rfl⟩:=q rfl
      have c0':0≤c:=c0
      have pr:=zhY c0' sc
      cases mov <;> simp only [Bool.not_true,Bool.not_false,cond_true,cond_false,List.cons_append,List.nil_append,List.mem_cons,List.not_mem_nil,or_false] <;> rintro w (rfl | rfl | rfl | rfl | rfl | rfl) <;> assumption
     | false=>
      cases mov <;> cases gh <;> simp only [Bool.not_true,Bool.not_false,cond_true,cond_false,List.cons_append,List.nil_append,List.mem_cons,List.not_mem_nil,or_false] <;> intro w hw <;> (repeat' (rcases hw with rfl | hw)) <;> first | assumption | (rw [hw];assumption)
    ·cases mov <;> cases gh <;> simp
    ·cases mov <;> cases gh <;> exact ⟨n,[82] ++ zax a,_,rfl,hR _⟩
  rcases zkw h1 with f | f | f | f | f | f | f <;> exact key f (by decide)
 | br n cond b c=>
  obtain ⟨sb,sc,q1,q2,q3⟩:=zgB h1.1 h2
  obtain ⟨w1,w2⟩:=zi4 h1.1
  obtain ⟨w3,w4,w5⟩:=zid h1.2
  have pn:zfv n:=zhg w1 w2
  have pd:zfv cond:=zhg w3 w4
  have pb:=zj1 sb
  have pc:=zj1 sc
  have pm:zfv (mark.getD (zax b)):=by
   cases mark with
   | none=>exact pb
   | some m=>exact zhg (hm m rfl).1 (hm m rfl).2.2
  show (∀ w∈zdk n cond b c mark,zfv w)∧(zdk n cond b c mark).length≤8∧∃ n' t u,zdk n cond b c mark=n' :: t :: u∧t≠[58]
  unfold zdk
  cases e1:decide (n=zcg) with
  | true=>
   rw [cond_true]
   refine ⟨?_,by simp,n,cond,_,rfl,w5⟩
   simp only [List.mem_cons,List.not_mem_nil,or_false]
   rintro w (rfl | rfl | rfl | rfl | rfl | rfl) <;> assumption
  | false=>
   rw [cond_false]
   cases e2:decide (n∈[sB,sBL]) with
   | true=>
    rw [cond_true]
    refine ⟨?_,by simp,n,cond,_,rfl,w5⟩
    simp only [List.mem_cons,List.not_mem_nil,or_false]
    rintro w (rfl | rfl | rfl | rfl) <;> assumption
   | false=>
    rw [cond_false]
    have e3:(decide (n=sBR) || decide (n=zdi))=true:=zpy h1.1 e1 e2
    have pr:=zhY (q2 e3).2.1 sb
    refine ⟨?_,by simp,n,cond,_,rfl,w5⟩
    simp only [List.mem_cons,List.not_mem_nil,or_false]
    rintro w (rfl | rfl | rfl | rfl) <;> assumption
theorem znu:∀ {a b x y:List Nat},10∉a→10∉b→a ++ 10 :: x=b ++ 10 :: y→a=b∧x=y
 | [],[],_,_,_,_,h=>by simp at h;exact ⟨rfl,h⟩
 | [],d :: b,_,_,_,hb,h=>by simp at h;exact absurd (by rw [← h.1];exact List.mem_cons_self ..) hb
 | c :: a,[],_,_,ha,_,h=>by simp at h;exact absurd (by rw [h.1];exact List.mem_cons_self ..) ha
 | c :: a,d :: b,_,_,ha,hb,h=>by
  simp only [List.cons_append,List.cons.injEq] at h
  obtain ⟨h1,h2⟩:=znu (fun h'=>ha (List.mem_cons_of_mem _ h')) (fun h'=>hb (List.mem_cons_of_mem _ h')) h.2
  exact ⟨by rw [h.1,h1],h2⟩
theorem zpz:∀ {A B:List (List Nat)},A≠[]→B≠[]→(∀ a∈A,10∉a)→(∀ b∈B,10∉b)→zaV [10] A=zaV [10] B→A=B
 | [],_,h,_,_,_,_=>absurd rfl h
 | _,[],_,h,_,_,_=>absurd rfl h
 | [a],[b],_,_,_,_,h=>by rw [zdc,zdc] at h;rw [h]
 | [a],b :: b' :: bs,_,_,ha,_,h=>by
  rw [zdc,zcG] at h
  exact absurd (by rw [h];simp) (ha a (List.mem_cons_self ..))
 | a :: a' :: as,[b],_,_,_,hb,h=>by
  rw [zdc,zcG] at h
  exact absurd (by rw [← h];simp) (hb b (List.mem_cons_self ..))
 | a :: a' :: as,b :: b' :: bs,_,_,ha,hb,h=>by
  rw [zcG,zcG,List.append_assoc,List.append_assoc] at h
  obtain ⟨h1,h2⟩:=znu (ha a (List.mem_cons_self ..)) (hb b (List.mem_cons_self ..)) h
  rw [h1,zpz (by simp) (by simp) (fun x hx=>ha x (List.mem_cons_of_mem _ hx)) (fun x hx=>hb x (List.mem_cons_of_mem _ hx)) h2]
theorem znU {A:List (List Nat)} (h0:A≠[]) (h:∀ a∈A,10∉a):zbc (zaV [10] A) [10]=A:=by
 have hs:zbc (zaV [10] A) [10]≠[]:=by
  unfold zbc
  intro e
  have:=split_pos (Mine.Internal.str (zaV [10] A)) (Mine.Internal.str [10])
  rw [List.map_eq_nil_iff.mp e] at this
  exact absurd this (by decide)
 refine zpz hs h0 ?_ h ?_
 ·intro a ha
  obtain ⟨p,hp,rfl⟩:=List.mem_map.mp ha
  exact StrLaws.split_free (Mine.Internal.str (zaV [10] A)) 10 p hp
 ·have e:(zbc (zaV [10] A) [10]).map Mine.Internal.str=Txt.split (Mine.Internal.str (zaV [10] A)) (Mine.Internal.str [10]):=by
   unfold zbc
   rw [List.map_map]
   have:(Mine.Internal.str∘fun x:Str=>x.cps.toList)=id:=by funext x;exact zdx x
   rw [this,List.map_id]
  show (Txt.join (Mine.Internal.str [10]) ((zbc (zaV [10] A) [10]).map Mine.Internal.str)).cps.toList=_
  rw [e]
  unfold Txt.join
  rw [StrLaws.glued_eq_join,StrLaws.join_split];rfl
theorem zj2 {g:List Nat} {c:Nat}:∀ {ws:List (List Nat)},c∈zaV g ws→c∈g∨∃ w∈ws,c∈w
 | [],h=>by rw [zfF] at h;exact nomatch h
 | [w],h=>by rw [zdc] at h;exact .inr ⟨w,List.mem_cons_self ..,h⟩
 | w :: z :: ws,h=>by
  rw [zcG,List.append_assoc] at h
  rcases List.mem_append.mp h with h | h
  ·exact .inr ⟨w,List.mem_cons_self ..,h⟩
  ·rcases List.mem_append.mp h with h | h
   ·exact .inl h
   ·rcases zj2 h with h | ⟨x,h1,h2⟩
    ·exact .inl h
    ·exact .inr ⟨x,List.mem_cons_of_mem _ h1,h2⟩
theorem zdG {w:List Nat} (h:zb6 w=true):10∉w:=by
 cases w with
 | nil=>exact fun h=>nomatch h
 | cons c r=>
  unfold zb6 at h
  rw [Bool.and_eq_true] at h
  intro hm
  rcases List.mem_cons.mp hm with rfl | hm
  ·exact absurd h.1 (by decide)
  ·exact absurd (List.all_eq_true.mp h.2 10 hm) (by decide)
theorem ztq {w:List Nat} (h:w∈zn9):10∉w:=by revert w;decide
theorem zrX {w:List Nat} (h:zeq w=true):10∉w:=by
 unfold zeq at h
 rcases Bool.or_eq_true_iff.mp h with h | h
 ·exact zdG h
 ·exact ztq (of_decide_eq_true h)
theorem zgX (l:List Nat):∀ (ls:List (List Nat)) (num:Int) (dr:Drs) (lb:zcY),zg5 (ls ++ [l]) num dr lb=match zg5 ls num dr lb with
  | .ok x=>(match zdE (num+ls.length+1) l x.1 x.2 with
   | .ok y=>.ok y
   | .error w=>.error (num+ls.length+1,w))
  | .error e=>.error e
 | [],num,dr,lb=>by
  show (match zdE (num+1) l dr lb with
   | .error w=>Except.error (num+1,w)
   | .ok x=>zg5 [] (num+1) x.1 x.2)=(match zdE (num+((0:Nat):Int)+1) l dr lb with
   | .ok y=>Except.ok y
   | .error w=>.error (num+((0:Nat):Int)+1,w))
  rw [show num+((0:Nat):Int)+1=num+1 by lia]
  cases zdE (num+1) l dr lb <;> rfl
 | x :: ls,num,dr,lb=>by
  rw [List.cons_append]
  unfold zg5
  cases h:zdE (num+1) x dr lb with
  | error w=>rfl
  | ok y=>
   dsimp only
   rw [zgX l ls,List.length_cons,show num+1+(ls.length:Int)+1=num+((ls.length+1:Nat):Int)+1 by lia]
theorem zuU {ws:List (List Nat)} {n t:List Nat} {u:List (List Nat)} (h:ws=n :: t :: u) (ht:t≠[58]):zgT ws=some []:=by
 subst h
 unfold zgT
 have:zbn (n :: t :: u) 1=t:=rfl
 rw [this,decide_eq_false ht,Bool.and_false];rfl
theorem zrY {num:Int} {l:List Nat} {dr:Drs} {lb:zcY} (h:lex l=some []):zdE num l dr lb = .ok (dr,lb):=by
 unfold zdE;rw [h];rfl
theorem zpA {num:Int} {ws:List (List Nat)} {dr:Drs} {d:D} (h:ze8 ws = .ok d) (h0:ws≠[]):zgV num ws dr = .ok (dr ++ [(num,d)]):=by
 unfold zgV
 have:0 < ws.length:=List.length_pos_iff.mpr h0
 rw [decide_eq_true (by rw [List.length_map];lia),h];rfl
theorem zuV {num:Int} {l:List Nat} {dr:Drs} {lb:zcY} {ws:List (List Nat)} {d:D} (h:lex l=some ws) (hr:ze8 ws = .ok d) {n t:List Nat} {u:List (List Nat)} (hw:ws=n :: t :: u) (ht:t≠[58]):zdE num l dr lb = .ok (dr ++ [(num,d)],lb):=by
 unfold zdE;rw [h]
 dsimp only
 rw [zuU hw ht]
 dsimp only
 rw [zpA hr (by rw [hw];simp)];rfl
theorem zpB {lab:List Nat} {ws:List (List Nat)} (hl:isL (lab.getD 0 0)=true):zgT (lab :: [58] :: ws)=some lab:=by
 unfold zgT
 have h1:zbn (lab :: [58] :: ws) 1=[58]:=rfl
 have h2:zbn (lab :: [58] :: ws) 0=lab:=rfl
 rw [h1,h2,hl,decide_eq_true rfl,decide_eq_true (by rw [List.length_map,List.length_cons,List.length_cons];lia)];rfl
theorem ztr {lab:List Nat} (hl:isL (lab.getD 0 0)=true):decide (lab=[])=false:=decide_eq_false fun e=>by subst e;exact absurd hl (by decide)
theorem zuW {num:Int} {l:List Nat} {dr:Drs} {lb:zcY} {lab:List Nat} (h:lex l=some [lab,[58]]) (hl:isL (lab.getD 0 0)=true) (hn:zbB lb lab=none):zdE num l dr lb = .ok (dr,lb ++ [(lab,(dr.length:Int))]):=by
 unfold zdE;rw [h]
 dsimp only
 rw [zpB hl]
 dsimp only
 rw [ztr hl,hn];rfl
theorem zqr {num:Int} {l:List Nat} {dr:Drs} {lb:zcY} {lab:List Nat} {ws:List (List Nat)} {d:D} (h:lex l=some (lab :: [58] :: ws)) (hr:ze8 ws = .ok d) (h0:ws≠[]) (hl:isL (lab.getD 0 0)=true) (hn:zbB lb lab=none):zdE num l dr lb = .ok (dr ++ [(num,d)],lb ++ [(lab,(dr.length:Int))]):=by
 unfold zdE;rw [h]
 dsimp only
 rw [zpB hl]
 dsimp only
 rw [ztr hl,hn]
 show Except.map _ (zgV num ((lab :: [58] :: ws).drop 2) dr)=_
 rw [show (lab :: [58] :: ws).drop 2=ws from rfl,zpA hr h0];rfl
structure zj3 (pm:List Nat) (rows:List Rw) (ks:List Int) (i i':Nat) (dr:Drs) (lb:zcY):Prop where
 dl:dr.length=i
 dr:∀ j,j < i→∃ r num mark,rows[j]? = some r∧dr[j]? = some (num,r.drf mark)∧(mark=none∨∃ t:Nat,mark=some (pm ++ zax t)∧(t:Int)∈ks∧za5 rows j=t)
 lb:∀ t:Nat,zbB lb (pm ++ zax t)=if (t:Int)∈ks∧t < i' then some (t:Int) else none
noncomputable def Run (pm:List Nat) (rows:List Rw) (ks:List Int) (i i':Nat) (ls:List (List Nat)):Prop:=∃ dr lb,zg5 ls 0 [] [] = .ok (dr,lb)∧zj3 pm rows ks i i' dr lb
section
variable {pm:List Nat} {rows:List Rw} {ks:List Int} {i i':Nat} {ls:List (List Nat)} {l:List Nat}
theorem zqP:Run pm rows ks 0 0 []:=⟨[],[],rfl,rfl,fun j h=>absurd h (Nat.not_lt_zero j),fun t=>by rw [if_neg (fun h=>Nat.not_lt_zero _ h.2)];rfl⟩
theorem zts (h:Run pm rows ks i i' ls) (hl:lex l=some []):Run pm rows ks i i' (ls ++ [l]):=by
 obtain ⟨dr,lb,h1,h2⟩:=h
 exact ⟨dr,lb,by rw [zgX,h1];dsimp only;rw [zrY hl],h2⟩
theorem zlC (h:Run pm rows ks i i ls) (hk:(i:Int)∉ks):Run pm rows ks i (i+1) ls:=by
 obtain ⟨dr,lb,h1,h2⟩:=h
 refine ⟨dr,lb,h1,h2.dl,h2.dr,fun t=>?_⟩
 rw [h2.lb t]
 have:((t:Int)∈ks∧t < i)=((t:Int)∈ks∧t < i+1):=by
  apply propext
  constructor
  ·exact fun h=>⟨h.1,by lia⟩
  ·rintro ⟨h1,h2⟩
   refine ⟨h1,?_⟩
   have:t≠i:=fun e=>hk (e▸h1)
   lia
 simp only [this]
theorem zrZ {lb:zcY} {lab s:List Nat} {v:Int}:zbB (lb ++ [(lab,v)]) s=match zbB lb s with
  | some x=>some x
  | none=>if lab=s then some v else none:=by
 unfold zbB
 rw [List.find?_append]
 cases h:lb.find? fun p=>decide (p.1=s) with
 | some x=>rfl
 | none=>
  simp only [Option.none_or,Option.map_none]
  by_cases q:lab=s <;> simp [q]
theorem zqQ {dr:Drs} {lb:zcY} (h:zj3 pm rows ks i i dr lb) (hk:(i:Int)∈ks):zbB lb (pm ++ zax i)=none∧zj3 pm rows ks i (i+1) dr (lb ++ [(pm ++ zax i,(dr.length:Int))]):=by
 have e:=h.lb i
 rw [if_neg (fun h=>Nat.lt_irrefl _ h.2)] at e
 refine ⟨e,h.dl,h.dr,fun t=>?_⟩
 rw [zrZ,h.lb t]
 by_cases q:t=i
 ·subst q
  rw [if_neg (fun h=>Nat.lt_irrefl _ h.2),if_pos (c:=(t:Int)∈ks∧t < t+1) ⟨hk,Nat.lt_succ_self _⟩,h.dl];simp
 ·have hne:¬ (pm ++ zax (i:Int)=pm ++ zax (t:Int)):=fun e=>q (by have:=ztp (List.append_cancel_left e);lia)
  by_cases q2:(t:Int)∈ks∧t < i
  ·rw [if_pos q2,if_pos (c:=(t:Int)∈ks∧t < i+1) ⟨q2.1,by lia⟩]
  ·rw [if_neg q2,if_neg (c:=(t:Int)∈ks∧t < i+1) (fun h=>q2 ⟨h.1,by lia⟩)];simp [hne]
theorem zqR {dr:Drs} {lb:zcY} (h:zj3 pm rows ks i (i+1) dr lb) {r:Rw} (hr:rows[i]? = some r) {mark:Option (List Nat)} (hm:mark=none∨∃ t:Nat,mark=some (pm ++ zax t)∧(t:Int)∈ks∧za5 rows i=t) (num:Int):zj3 pm rows ks (i+1) (i+1) (dr ++ [(num,r.drf mark)]) lb:=by
 refine ⟨by rw [List.length_append,h.dl];rfl,fun j hj=>?_,h.lb⟩
 rcases Nat.lt_or_ge j i with q | q
 ·obtain ⟨r',num',mark',h1,h2,h3⟩:=h.dr j q
  exact ⟨r',num',mark',h1,by rw [List.getElem?_append_left (by rw [h.dl];exact q)];exact h2,h3⟩
 ·have:j=i:=by lia
  subst this
  exact ⟨r,num,mark,hr,by rw [List.getElem?_append_right (by rw [h.dl];exact Nat.le_refl _),h.dl,Nat.sub_self];rfl,hm⟩
theorem zm3 (h:Run pm rows ks i i ls) (hk:(i:Int)∈ks) (hp:isL ((pm ++ zax i).getD 0 0)=true) (hl:lex l=some [pm ++ zax i,[58]]):Run pm rows ks i (i+1) (ls ++ [l]):=by
 obtain ⟨dr,lb,h1,h2⟩:=h
 obtain ⟨h3,h4⟩:=zqQ h2 hk
 exact ⟨dr,_,by rw [zgX,h1];dsimp only;rw [zuW hl hp h3],h4⟩
theorem zqS (h:Run pm rows ks i (i+1) ls) {r:Rw} (hr:rows[i]? = some r) {mark:Option (List Nat)} (hm:mark=none∨∃ t:Nat,mark=some (pm ++ zax t)∧(t:Int)∈ks∧za5 rows i=t) {ws:List (List Nat)} (hl:lex l=some ws) (hw:ze8 ws = .ok (r.drf mark)) {n t:List Nat} {u:List (List Nat)} (hu:ws=n :: t :: u) (ht:t≠[58]):Run pm rows ks (i+1) (i+1) (ls ++ [l]):=by
 obtain ⟨dr,lb,h1,h2⟩:=h
 exact ⟨_,_,by rw [zgX,h1];dsimp only;rw [zuV hl hw hu ht],zqR h2 hr hm _⟩
theorem zr0 (h:Run pm rows ks i i ls) (hk:(i:Int)∈ks) (hp:isL ((pm ++ zax i).getD 0 0)=true) {r:Rw} (hr:rows[i]? = some r) {mark:Option (List Nat)} (hm:mark=none∨∃ t:Nat,mark=some (pm ++ zax t)∧(t:Int)∈ks∧za5 rows i=t) {ws:List (List Nat)} (hl:lex l=some ((pm ++ zax i) :: [58] :: ws)) (hw:ze8 ws = .ok (r.drf mark)) (h0:ws≠[]):Run pm rows ks (i+1) (i+1) (ls ++ [l]):=by
 obtain ⟨dr,lb,h1,h2⟩:=h
 obtain ⟨h3,h4⟩:=zqQ h2 hk
 exact ⟨_,_,by rw [zgX,h1];dsimp only;rw [zqr hl hw h0 hp h3],zqR h4 hr hm _⟩
end
theorem zys {pm:List Nat} {rows:List Rw} (hf:∀ r∈rows,r.fine) {lb:zcY} {j:Nat} {r:Rw} (hr:rows[j]? = some r) {mark:Option (List Nat)} (hm:mark=none∨∃ t:Nat,mark=some (pm ++ zax t)∧zbB lb (pm ++ zax t)=some (t:Int)∧za5 rows j=t):zic lb j (r.drf mark) = .ok r.d:=by
 obtain ⟨h1,h2⟩:=hf r (List.mem_of_getElem? hr)
 cases r with
 | reg n a b c=>
  show zic lb j (za9 n (.int a) (.int b) (.int c))=_
  rw [zpo,zns h1 h2];rfl
 | br n cond b c=>
  have hbf:=zpv h1.1 h1.2 h2
  have hc:(bif decide (n=sB) || decide (n=sBL) then 0 else c)=c:=by
   cases q:(decide (n=sB) || decide (n=sBL)) with
   | false=>rfl
   | true=>rw [((zgB h1.1 h2).2.2.1 q).1];rfl
  have plain:zic lb j (za9 n (.str cond) (.int b) (.int c)) = .ok (Rw.br n cond b c).d:=by
   rw [zqO,hc,hbf];rfl
  rcases hm with rfl | ⟨t,rfl,hl,ht⟩
  ·exact plain
  ·show zic lb j (drf n cond b c (some (pm ++ zax t)))=_
   unfold drf
   dsimp only
   cases q:decide (n∈[sB,sBL]) with
   | false=>exact plain
   | true=>
    rw [cond_true,zpp,hl]
    dsimp only
    have hq:(decide (n=sB) || decide (n=sBL))=true:=by have:=of_decide_eq_true q;simp at this;simpa using this
    have hc0:=((zgB h1.1 h2).2.2.1 hq).1
    have hb:(t:Int) - (j:Int) - 1=b:=by
     unfold za5 at ht
     rw [hr] at ht
     unfold tgt at ht
     have hq2:(!decide (n=sB) && !decide (n=sBL))=false:=by rw [← Bool.not_or,hq];rfl
     change (bif !decide (n=sB) && !decide (n=sBL) then (-1:Int) else bif decide ((j:Int)+1+b < 0) || decide ((rows.length:Int) < (j:Int)+1+b) then -1 else (j:Int)+1+b)=t at ht
     rw [hq2,cond_false] at ht
     cases hz:(decide ((j:Int)+1+b < 0) || decide ((rows.length:Int) < (j:Int)+1+b)) with
     | true=>rw [hz,cond_true] at ht;lia
     | false=>rw [hz,cond_false] at ht;lia
    rw [hb]
    rw [hc0] at hbf
    rw [hbf,hc0];rfl
theorem zqT {pm:List Nat} {rows:List Rw} (hf:∀ r∈rows,r.fine) {lb:zcY}:∀ (dr:Drs) (j:Nat),j+dr.length=rows.length→(∀ k,k < dr.length→∃ r num mark,rows[j+k]? = some r∧dr[k]? = some (num,r.drf mark)∧(mark=none∨∃ t:Nat,mark=some (pm ++ zax t)∧zbB lb (pm ++ zax t)=some (t:Int)∧za5 rows (j+k)=t))→
  zm1 lb dr ((rows.take j).map Rw.d) = .ok (rows.map Rw.d)
 | [],j,h,_=>by
  have:j=rows.length:=by simpa using h
  subst this
  rw [List.take_length];rfl
 | x :: dr,j,h,hd=>by
  obtain ⟨r,num,mark,h1,h2,h3⟩:=hd 0 (Nat.zero_lt_succ _)
  have hj:j < rows.length:=by rw [List.length_cons] at h;lia
  have hx:x=(num,r.drf mark):=by simpa using h2
  have hlen:((rows.take j).map Rw.d).length=j:=by rw [List.length_map,List.length_take];lia
  unfold zm1
  rw [hlen,hx]
  dsimp only
  rw [zys (j:=j) hf h1 h3]
  dsimp only
  have e:(rows.take j).map Rw.d ++ [r.d]=(rows.take (j+1)).map Rw.d:=by
   have h1':rows[j]? = some r:=h1
   rw [List.take_add_one,h1',List.map_append];rfl
  rw [e]
  refine zqT (pm:=pm) hf dr (j+1) (by rw [List.length_cons] at h;lia) fun k hk=>?_
  obtain ⟨r',num',mark',h1',h2',h3'⟩:=hd (k+1) (Nat.succ_lt_succ hk)
  have ea:j+1+k=j+(k+1):=by lia
  rw [ea]
  exact ⟨r',num',mark',h1',by simpa using h2',h3'⟩
theorem zuX {pm:List Nat} {rows:List Rw} {ks:List Int} {ls:List (List Nat)} (hf:∀ r∈rows,r.fine) (hk:∀ t∈ks,t≤rows.length) (h:Run pm rows ks rows.length (rows.length+1) ls) {text:List Nat} (hs:zg5 (zbc text [10]) 0 [] []=zg5 ls 0 [] []):zhE text = .ok (rows.map Rw.d):=by
 obtain ⟨dr,lb,h1,h2⟩:=h
 unfold zhE
 rw [hs,h1]
 dsimp only
 refine zqT (pm:=pm) hf dr 0 (by rw [h2.dl];lia) fun k hk'=>?_
 rw [h2.dl] at hk'
 obtain ⟨r,num,mark,q1,q2,q3⟩:=h2.dr k hk'
 rw [Nat.zero_add]
 refine ⟨r,num,mark,q1,q2,?_⟩
 rcases q3 with q3 | ⟨t,q3,q4,q5⟩
 ·exact .inl q3
 ·refine .inr ⟨t,q3,?_,q5⟩
  have:=hk _ q4
  rw [h2.lb t,if_pos ⟨q4,by lia⟩]
theorem ztt:zbc [] [10]=[[]]:=by
 have h1:(zaV [10] (zbc [] [10]))=[]:=by
  have e:(zbc [] [10]).map Mine.Internal.str=Txt.split (Mine.Internal.str []) (Mine.Internal.str [10]):=by
   unfold zbc
   rw [List.map_map]
   have:(Mine.Internal.str∘fun x:Str=>x.cps.toList)=id:=by funext x;exact zdx x
   rw [this,List.map_id]
  show (Txt.join (Mine.Internal.str [10]) ((zbc [] [10]).map Mine.Internal.str)).cps.toList=_
  rw [e]
  unfold Txt.join
  rw [StrLaws.glued_eq_join,StrLaws.join_split];rfl
 have h2:1≤(zbc [] [10]).length:=by
  unfold zbc;rw [List.length_map];exact split_pos _ _
 generalize zbc [] [10]=s at *
 cases s with
 | nil=>exact absurd h2 (by decide)
 | cons a s=>
  cases s with
  | nil=>rw [zdc] at h1;rw [h1]
  | cons b s=>rw [zcG] at h1;simp at h1
theorem znv {ls:List (List Nat)} (hn:∀ l∈ls,10∉l):zbc (zaV [10] ls) [10]=if ls=[] then [[]] else ls:=by
 by_cases h:ls=[]
 ·subst h;rw [zfF,ztt,if_pos rfl]
 ·rw [if_neg h,znU h hn]
theorem znw {pm:List Nat} {rows:List Rw} {ks:List Int} {ls:List (List Nat)} (hf:∀ r∈rows,r.fine) (hk:∀ t∈ks,t≤rows.length) (h:Run pm rows ks rows.length (rows.length+1) ls) (hn:∀ l∈ls,10∉l):zhE (zaV [10] ls) = .ok (rows.map Rw.d):=by
 refine zuX hf hk h ?_
 rw [znv hn]
 by_cases q:ls=[]
 ·subst q;rw [if_pos rfl];rfl
 ·rw [if_neg q]
theorem zmq {ls:List (List Nat)} {c:Nat} (h:∀ l∈ls,l.length≤c):(ls.map (·.length)).sum≤ls.length * c:=by
 induction ls with
 | nil=>exact Nat.zero_le _
 | cons l ls ih=>
  rw [List.map_cons,List.sum_cons,List.length_cons,Nat.succ_mul]
  have:=h l (List.mem_cons_self ..)
  have:=ih fun x hx=>h x (List.mem_cons_of_mem _ hx)
  lia
theorem zmr {ls:List (List Nat)} (hn:∀ l∈ls,10∉l) (hl:∀ l∈ls,l.length≤5000) (h100:ls.length≤300):(zaV [10] ls).length≤16777210∧(∀ l∈zbc (zaV [10] ls) [10],l.length≤90000)∧(zbc (zaV [10] ls) [10]).length≤1000:=by
 rw [znv hn]
 refine ⟨?_,?_,?_⟩
 ·rw [zfG]
  have h1:=zmq hl
  have h2:ls.length * 5000≤300 * 5000:=Nat.mul_le_mul_right _ h100
  simp only [List.length_cons,List.length_nil]
  lia
 ·by_cases q:ls=[]
  ·rw [if_pos q];simp
  ·rw [if_neg q];exact fun l h=>by have:=hl l h;lia
 ·by_cases q:ls=[]
  ·rw [if_pos q];decide
  ·rw [if_neg q];lia
theorem zuY {n:List Nat} (hn:n∈zfA) {a b c:Int} (h:zgU n a b c=true):lex (zdJ n a b c)=some (zcM (.reg n a b c) none true):=by
 have key:∀ {op im mem mh gh mov mv:Bool},NF n op im mem mh gh mov mv→(op=true→mem=false∧mh=false∧gh=false)→lex (zdJ n a b c)=some (zcM (.reg n a b c) none true):=by
  intro op im mem mh gh mov mv f q
  obtain ⟨a0,a1,b0,b1,bz,c0,c1⟩:=zeQ f h
  have wa:=zhI a0
  have wb:=zhI b0
  have wc:=zfJ c
  unfold zdJ zcM
  dsimp only
  rw [f.mem,f.mel]
  cases mem with
  | true=>
   rw [cond_true,cond_true]
   have e:n ++ [32,82] ++ zax a ++ [44,32,91,82] ++ zax b ++ [44,32] ++ zax c ++ [93]=n ++ ([32] ++ (([82] ++ zax a) ++ (44 :: ([32] ++ (91 :: (([82] ++ zax b) ++ (44 :: ([32] ++ (zax c ++ (93 :: [])))))))))):=by simp
   rw [e,zby f.wk rfl,zbW _ (by decide),zby wa rfl,zcq _ (by decide),zbW _ (by decide),zcq _ (by decide),zby wb rfl,zcq _ (by decide),zbW _ (by decide),zby wc rfl,zcq _ (by decide),zdW];rfl
  | false=>
   rw [cond_false,cond_false]
   have hw:∀ w∈zdZ n a b c,zb6 w=true:=by
    unfold zdZ ziY
    rw [f.mov,f.gh,f.op]
    cases op with
    | true=>
     have c0':0≤c:=by obtain ⟨_,rfl,rfl⟩:=q rfl;exact c0
     have wr:=zhI c0'
     cases mov <;> simp only [Bool.not_true,Bool.not_false,cond_true,cond_false,List.cons_append,List.nil_append,List.mem_cons,List.not_mem_nil,or_false] <;> intro w hw <;> (repeat' (rcases hw with rfl | hw)) <;> first | assumption | (rw [hw];assumption)
    | false=>
     cases mov <;> cases gh <;> simp only [Bool.not_true,Bool.not_false,cond_true,cond_false,List.cons_append,List.nil_append,List.mem_cons,List.not_mem_nil,or_false] <;> intro w hw <;> (repeat' (rcases hw with rfl | hw)) <;> first | assumption | (rw [hw];assumption)
   have hl:=zpu (zdZ n a b c) (s:=[]) hw rfl
   rw [List.append_nil] at hl
   rw [List.append_assoc,zby f.wk rfl,zbW _ (by decide),hl,zdW]
   unfold zdZ ziY zf9 ziD
   rw [f.mov,f.gh,f.op]
   cases op with
   | true=>
    obtain ⟨_,rfl,rfl⟩:=q rfl
    cases mov <;> rfl
   | false=>cases mov <;> cases gh <;> rfl
 rcases zkw hn with f | f | f | f | f | f | f <;> exact key f (by decide)
theorem zyt {n:List Nat} (h:n∈[sB,sBL]):(decide (n=sBR) || decide (n=zdi))=false:=by revert n;decide
theorem zuZ {n cond:List Nat} (hn:n∈BRS) (hc:cond∈zcD) {b c:Int} (h:zf8 n b c=true) {l:List Nat} (hl:l=[]∨zdF l):lex (zeg n cond b c l)=some (zdk n cond b c (if l=[] then none else some l)):=by
 obtain ⟨sb,sc,q1,q2,q3⟩:=zgB hn h
 have wn:=(zi4 hn).1
 have wcd:=(zid hc).1
 have wb:=zfJ b
 have wc:=zfJ c
 unfold zeg zdk
 cases e1:decide (n=zcg) with
 | true=>
  have:=of_decide_eq_true e1
  subst this
  rw [cond_true,cond_true]
  have e:[84,82,65,80,32] ++ cond ++ [44,32] ++ zax b ++ [44,32] ++ zax c=zcg ++ ([32] ++ (cond ++ (44 :: ([32] ++ (zax b ++ (44 :: ([32] ++ (zax c ++ [])))))))):=by simp
  rw [e,zby wn rfl,zbW _ (by decide),zby wcd rfl,zcq _ (by decide),zbW _ (by decide),zby wb rfl,zcq _ (by decide),zbW _ (by decide),zby wc rfl,zdW];rfl
 | false=>
  rw [cond_false,cond_false]
  cases e2:decide (n∈[sB,sBL]) with
  | true=>
   have e3:=zyt (of_decide_eq_true e2)
   rw [e3,cond_false,cond_true]
   have wm:zb6 (bif !decide (l=[]) then l else zax b)=true:=by
    rcases hl with rfl | hl
    ·exact wb
    ·cases (!decide (l=[]))
     ·exact wb
     ·exact hl.1
   have e:n ++ [32] ++ cond ++ [44,32] ++ (bif !decide (l=[]) then l else zax b)=n ++ ([32] ++ (cond ++ (44 :: ([32] ++ ((bif !decide (l=[]) then l else zax b) ++ []))))):=by simp
   rw [e,zby wn rfl,zbW _ (by decide),zby wcd rfl,zcq _ (by decide),zbW _ (by decide),zby wm rfl,zdW]
   by_cases q:l=[]
   ·subst q;rfl
   ·rw [if_neg q,decide_eq_false q];rfl
  | false=>
   have e3:=zpy hn e1 e2
   rw [e3,cond_true,cond_false]
   have wr:=zhI (q2 e3).2.1
   have e:n ++ [32] ++ cond ++ [44,32,82] ++ zax b=n ++ ([32] ++ (cond ++ (44 :: ([32] ++ (([82] ++ zax b) ++ []))))):=by simp
   rw [e,zby wn rfl,zbW _ (by decide),zby wcd rfl,zcq _ (by decide),zbW _ (by decide),zby wr rfl,zdW];rfl
theorem zwD {r:Rw} (h:r.fine) {l:List Nat} (hl:l=[]∨zdF l):lex ([32,32] ++ zcS r l)=some (zcM r (if l=[] then none else some l) true):=by
 rw [zbW _ (by decide)]
 cases r with
 | reg n a b c=>
  have:=zuY h.1 h.2
  exact this
 | br n cond b c=>exact zuZ h.1.1 h.1.2 h.2 hl
theorem ztu (r:Rw):r.lowZ true:=by
 cases r with
 | reg n a b c=>exact fun x_=>.inr rfl
 | br n cond b c=>trivial
theorem zhZ {p:List Nat} (hp:zb6 p=true) (hl:isL (p.getD 0 0)=true) (h100:p.length≤100) {t:Nat} (ht:t≤1000000):zdF (p ++ zax (t:Int)):=by
 refine ⟨znr hp,?_,by rw [List.length_append];have:=(zmp ht).2;lia⟩
 cases p with
 | nil=>exact Bool.noConfusion hp
 | cons c p=>exact hl
theorem zqU {w:List Nat} (h:zb6 w=true):lex (w ++ [58])=some [w,[58]]:=by
 rw [zby h rfl,zcq _ (by decide),zdW];rfl
theorem zpC {r:Rw} (h:r.fine) {l:List Nat} (hl:l=[]∨zdF l):10∉zcS r l:=by
 have no:∀ a,10∉zax a:=fun a=>zdG (zfJ a)
 cases r with
 | reg n a b c=>
  have hn:10∉n:=by rcases zkw h.1 with f | f | f | f | f | f | f <;> exact zdG f.wk
  show 10∉zdJ n a b c
  have hj:10∉zaV [44,32] (zdZ n a b c):=by
   intro hm
   rcases zj2 hm with hm | ⟨w,hw,hm⟩
   ·revert hm;decide
   ·unfold zdZ ziY at hw
    have key:w=[82] ++ zax a∨w=[82] ++ zax b∨w=[82] ++ zax c∨w=zax c:=by
     generalize (!decide (n∈[zhy,zf4,zcb,zbN]))=x at hw
     generalize decide (n∈OPS)=y at hw
     generalize (!decide (n=zbN))=z at hw
     cases x <;> cases y <;> cases z <;> simp only [cond_true,cond_false,List.cons_append,List.nil_append,List.mem_cons,List.not_mem_nil,or_false] at hw <;> (repeat' (rcases hw with hw | hw)) <;> first | simp | simp [hw]
    rcases key with rfl | rfl | rfl | rfl
    ·rcases List.mem_append.mp hm with hm | hm;revert hm;decide;exact no _ hm
    ·rcases List.mem_append.mp hm with hm | hm;revert hm;decide;exact no _ hm
    ·rcases List.mem_append.mp hm with hm | hm;revert hm;decide;exact no _ hm
    ·exact no _ hm
  unfold zdJ
  cases decide (n∈zeN) <;> simp only [cond_true,cond_false,List.mem_append,not_or]
  ·exact ⟨⟨hn,by decide⟩,hj⟩
  ·exact ⟨⟨⟨⟨⟨⟨⟨hn,by decide⟩,no _⟩,by decide⟩,no _⟩,by decide⟩,no _⟩,by decide⟩
 | br n cond b c=>
  have hn:=zdG (zi4 h.1.1).1
  have hc:=zdG (zid h.1.2).1
  have hl':10∉(bif !decide (l=[]) then l else zax b):=by
   rcases hl with rfl | hl
   ·exact no _
   ·cases (!decide (l=[]))
    ·exact no _
    ·exact zdG hl.1
  show 10∉zeg n cond b c l
  unfold zeg
  cases decide (n=zcg) <;> cases (decide (n=sBR) || decide (n=zdi)) <;> simp only [cond_true,cond_false,List.mem_append,not_or]
  ·exact ⟨⟨⟨⟨hn,by decide⟩,hc⟩,by decide⟩,hl'⟩
  ·exact ⟨⟨⟨⟨hn,by decide⟩,hc⟩,by decide⟩,no _⟩
  ·exact ⟨⟨⟨⟨⟨by decide,hc⟩,by decide⟩,no _⟩,by decide⟩,no _⟩
  ·exact ⟨⟨⟨⟨⟨by decide,hc⟩,by decide⟩,no _⟩,by decide⟩,no _⟩
noncomputable def zdP (rows:List Rw) (i:Nat):List Nat:=bif decide (0≤za5 rows i) then [76] ++ zax (za5 rows i) else []
theorem zpD {rows:List Rw} (hl:rows.length≤100) (i:Nat):(zdP rows i=[]∧za5 rows i < 0)∨(∃ t:Nat,za5 rows i=t∧t≤rows.length∧zdP rows i=[76] ++ zax (t:Int)∧zdF (zdP rows i)):=by
 obtain ⟨h1,h2⟩:=zhG rows i
 unfold zdP
 cases h:decide (0≤za5 rows i) with
 | false=>exact .inl ⟨rfl,by have:=of_decide_eq_false h;lia⟩
 | true=>
  obtain ⟨t,ht⟩:=Int.eq_ofNat_of_zero_le (of_decide_eq_true h)
  rw [ht]
  exact .inr ⟨t,rfl,by lia,rfl,zhZ (by decide) (by decide) (by decide) (by lia)⟩
theorem zqV {rows:List Rw} (hl:rows.length≤100) (hf:∀ r∈rows,r.fine):∀ i,i≤rows.length→Run [76] rows (zaJ rows rows.length) i i (zbK rows (zaJ rows rows.length) i)
 | 0,_=>zqP
 | i+1,h=>by
  have ih:=zqV hl hf i (by lia)
  have hi:rows[i]? = some rows[i]:=List.getElem?_eq_getElem (by lia)
  have hr:=hf _ (List.getElem_mem (by lia:i < rows.length))
  rw [zgc hi]
  generalize rows[i]=r at *
  have hmk:=zpD hl i
  have step:∀ ls,Run [76] rows (zaJ rows rows.length) i (i+1) ls→Run [76] rows (zaJ rows rows.length) (i+1) (i+1) (ls ++ [[32,32] ++ zcS r (zdP rows i)]):=by
   intro ls hR
   have hm:zdP rows i=[]∨zdF (zdP rows i):=by
    rcases hmk with h | ⟨t,_,_,_,h⟩
    ·exact .inl h.1
    ·exact .inr h
   have hmm:∀ m,(if zdP rows i=[] then none else some (zdP rows i))=some m→zdF m:=by
    intro m e
    by_cases q:zdP rows i=[]
    ·rw [if_pos q] at e;exact nomatch e
    ·rw [if_neg q] at e
     cases e
     rcases hm with h | h
     ·exact absurd h q
     ·exact h
   obtain ⟨_,_,n,t,u,e1,e2⟩:=zie hr hmm true
   refine zqS hR hi ?_ (zwD hr hm) (znt hr hmm (ztu r)) e1 e2
   rcases hmk with ⟨h,_⟩ | ⟨t,h1,h2,h3,h4⟩
   ·exact .inl (if_pos h)
   ·have hne:zdP rows i≠[]:=by rw [h3];simp
    refine .inr ⟨t,by rw [if_neg hne,h3],?_,h1⟩
    rw [zgA]
    exact ⟨i,by lia,h1.symm,by lia⟩
  unfold zgb
  cases q:decide ((i:Int)∈zaJ rows rows.length) with
  | true=>
   have mo:=zhZ (p:=[76]) (t:=i) (by decide) (by decide) (by decide) (by lia)
   have:=zm3 ih (of_decide_eq_true q) mo.2.1 (zqU mo.1)
   have:=step _ this
   rw [List.append_assoc] at this
   exact this
  | false=>exact step _ (zlC ih (of_decide_eq_false q))
theorem zu0 {rows:List Rw} (hl:rows.length≤100) (hf:∀ r∈rows,r.fine):Run [76] rows (zaJ rows rows.length) rows.length (rows.length+1) (zeu rows):=by
 have ih:=zqV hl hf rows.length (Nat.le_refl _)
 unfold zeu
 cases q:decide ((rows.length:Int)∈zaJ rows rows.length) with
 | true=>
  have mo:=zhZ (p:=[76]) (t:=rows.length) (by decide) (by decide) (by decide) (by lia)
  exact zm3 ih (of_decide_eq_true q) mo.2.1 (zqU mo.1)
 | false=>rw [cond_false,List.append_nil];exact zlC ih (of_decide_eq_false q)
theorem znx {rows:List Rw} (hl:rows.length≤100) (hf:∀ r∈rows,r.fine):∀ l∈zeu rows,10∉l∧l.length≤5000:=by
 have lab:∀ i:Nat,i≤1000000→10∉[76] ++ zax (i:Int) ++ [58]∧([76] ++ zax (i:Int) ++ [58]).length≤5000:=fun i hi=>by
  have:=(zmp hi).2
  constructor
  ·simp only [List.mem_append,not_or]
   exact ⟨⟨by decide,zdG (zfJ _)⟩,by decide⟩
  ·simp only [List.length_append,List.length_cons,List.length_nil];lia
 have key:∀ ks i,i≤rows.length→∀ l∈zbK rows ks i,10∉l∧l.length≤5000:=by
  intro ks i
  induction i with
  | zero=>intro _ l h;exact nomatch h
  | succ i ih=>
   intro hi l h
   have hg:rows[i]? = some rows[i]:=List.getElem?_eq_getElem (by lia)
   have hr:=hf _ (List.getElem_mem (by lia:i < rows.length))
   rw [zgc hg] at h
   rcases List.mem_append.mp h with h | h
   ·exact ih (by lia) l h
   ·unfold zgb at h
    have hm:zdP rows i=[]∨zdF (zdP rows i):=by
     rcases zpD hl i with h | ⟨t,_,_,_,h⟩
     ·exact .inl h.1
     ·exact .inr h
    have hll:(zdP rows i).length≤1000:=by
     rcases hm with h | h
     ·rw [h];exact Nat.zero_le _
     ·have:=h.2.2;lia
    have last:10∉[32,32] ++ zcS rows[i] (zdP rows i)∧([32,32] ++ zcS rows[i] (zdP rows i)).length≤5000:=by
     have h1:=zpC hr hm
     have h2:=zfk (zd7 hr) hll
     constructor
     ·rw [List.mem_append,not_or];exact ⟨by decide,h1⟩
     ·rw [List.length_append];simp only [List.length_cons,List.length_nil];lia
    rcases List.mem_append.mp h with h | h
    ·cases q:decide ((i:Int)∈ks) with
     | true=>rw [q,cond_true] at h;rw [List.mem_singleton.mp h];exact lab i (by lia)
     | false=>rw [q] at h;exact nomatch h
    ·rw [List.mem_singleton.mp h];exact last
 intro l h
 unfold zeu at h
 rcases List.mem_append.mp h with h | h
 ·exact key _ _ (Nat.le_refl _) l h
 ·cases q:decide ((rows.length:Int)∈zaJ rows rows.length) with
  | true=>rw [q,cond_true] at h;rw [List.mem_singleton.mp h];exact lab _ (by lia)
  | false=>rw [q] at h;exact nomatch h
theorem zu1 {rows:List Rw} (hl:rows.length≤100) (hf:∀ r∈rows,r.fine):(zeu rows).length≤300:=by
 have h:=(zgM (ks:=zaJ rows rows.length) (fun r h=>zd7 (hf r h)) (fun i x_=>zmp (by lia)) (fun i=>zpw hl i) rows.length (Nat.le_refl _)).1
 unfold zeu
 rw [List.length_append]
 cases decide ((rows.length:Int)∈zaJ rows rows.length) <;> simp <;> lia
theorem zu2 {rows:List Rw} (hl:rows.length≤100) (hf:∀ r∈rows,r.fine):zhE (zaV [10] (zeu rows)) = .ok (rows.map Rw.d):=by
 refine znw hf (fun t ht=>?_) (zu0 hl hf) (fun l h=>(znx hl hf l h).1)
 obtain ⟨i,_,rfl,_⟩:=(zgA rows _ _).mp ht
 exact (zhG rows i).2
noncomputable def ztv (nb:Nat):RX Fw→RE
 | .ok (.ret (.ref k)) μ'=>if nb≤k then match μ'[k]? with
  | some (.list ds)=>.ok (.ref (μ'.take nb).length) (μ'.take nb ++ [MO.list ds])
  | _=>.stuck
  else .stuck
 | _=>.stuck
theorem zzt {sc:Scope} {G:CF} {vs:List V} {μ:Mem} {σ:Loc} {r:RE} (hst:zaK sc vs=σ) (h:ztv μ.length (G σ (μ ++ []))=r):zoA sc G vs μ=r:=by
 rw [List.append_nil] at h
 unfold zoA
 rw [List.append_nil,hst,← h]
 cases G σ μ with
 | ok f μ'=>cases f with
  | next σ'=>rfl
  | ret v=>cases v <;> rfl
 | exc=>rfl
 | stuck=>rfl
theorem zyu {μ L:Mem} {j:Nat} {ds:List D} (h:L[j]? = some (.list ds)):ztv μ.length (.ok (.ret (.ref (μ.length+j))) (μ ++ L)) = .ok (.ref μ.length) (μ ++ [.list ds]):=by
 show (if _ then (match (μ ++ L)[μ.length+j]? with
  | some (.list ds)=>RX.ok (V.ref ((μ ++ L).take μ.length).length) ((μ ++ L).take μ.length ++ [MO.list ds])
  | _=>.stuck) else _)=_
 rw [if_pos (by lia),zaN h,List.take_left']
 rfl
noncomputable def zgd:Nat→List Int×Int→List Int×Int
 | 0,p=>p
 | m+1,p=>zgd m (if 0 < p.2 then (p.1 ++ [p.2 % 1024],p.2 / 1024) else p)
theorem zpE:∀ m p,(zgd m p).1.length≤p.1.length+m
 | 0,p=>Nat.le_refl _
 | m+1,p=>by
  have:=zpE m (if 0 < p.2 then (p.1 ++ [p.2 % 1024],p.2 / 1024) else p)
  unfold zgd
  by_cases h:0 < p.2
  ·rw [if_pos h] at this ⊢;simp at this;lia
  ·rw [if_neg h] at this ⊢;lia
noncomputable def zj4 (c:Int):Int:=if 0≤c then c else 7 - c
noncomputable def zfw (acc:List Int) (c:Int):List Int:=(zgd 30 (acc ++ [zj4 c % 1024],zj4 c / 1024)).1
theorem zny (acc:List Int) (c:Int):(zfw acc c).length≤acc.length+31:=by
 have:=zpE 30 (acc ++ [zj4 c % 1024],zj4 c / 1024)
 unfold zfw;simp at this ⊢;lia
noncomputable def zif (ns:List Int):List Int:=(slc ((slc ns none (some 40)).foldl zfw []) none (some 160)).reverse
theorem zu3 {α β:Type} (f:α→β) (l:List α) (lo hi:Option Int):slc (l.map f) lo hi=(slc l lo hi).map f:=by
 unfold slc;rw [List.length_map,List.map_take,List.map_drop]
theorem zkz {α:Type} (l:List α) (lo hi:Option Int):(slc l lo hi).length≤l.length:=by
 unfold slc;rw [List.length_take,List.length_drop];lia
theorem zlD:∀ (cs acc:List Int),(cs.foldl zfw acc).length≤acc.length+31 * cs.length
 | [],acc=>Nat.le_refl _
 | c :: cs,acc=>by
  have h1:=zlD cs (zfw acc c)
  have h2:=zny acc c
  rw [List.foldl_cons,List.length_cons];lia
theorem ztw (x:Int):0≤x % 1024∧x % 1024 < 1024:=⟨Int.emod_nonneg _ (by decide),Int.emod_lt_of_pos _ (by decide)⟩
noncomputable def inR (l:List Int):Prop:=∀ x∈l,0≤x∧x < 1024
theorem zpF {l:List Int} (h:inR l) (x:Int):inR (l ++ [x % 1024]):=by
 intro y hy
 rcases List.mem_append.mp hy with hy | hy
 ·exact h y hy
 ·rw [List.mem_singleton.mp hy];exact ztw x
theorem zm4:∀ m p,inR p.1→inR (zgd m p).1
 | 0,p,h=>h
 | m+1,p,h=>by
  unfold zgd
  by_cases q:0 < p.2
  ·rw [if_pos q];exact zm4 m _ (zpF h _)
  ·rw [if_neg q];exact zm4 m _ h
theorem zqW:∀ (cs acc:List Int),inR acc→inR (cs.foldl zfw acc)
 | [],acc,h=>h
 | c :: cs,acc,h=>zqW cs (zfw acc c) (zm4 30 _ (zpF h _))
theorem zwE {ns:List Int} (h:ns.length≤63):za8 (zif ns):=by
 have h1:=zkz ((slc ns none (some 40)).foldl zfw []) none (some 160)
 have h2:=zlD (slc ns none (some 40)) []
 have h3:=zkz ns none (some 40)
 refine ⟨?_,fun x hx=>?_⟩
 ·unfold zif
  rw [List.length_reverse]
  simp at h2;lia
 ·unfold zif at hx
  rw [List.mem_reverse] at hx
  refine zqW (slc ns none (some 40)) [] (fun x h=>nomatch h) x ?_
  unfold slc at hx
  exact List.mem_of_mem_drop (List.mem_of_mem_take hx)
section
variable {K:RX Fw→RE} {r:RE} {μ:Mem} {s0 s2 s5:Option V}
theorem zu4:∀ (m j:Nat) (acc:List Int) (fig:Int) (s4:Option V),acc.length+m≤100000→
  (∀ s4,K (.ok (.next [s0,some (.ref (μ.length+0)),s2,some (.d (.int (zgd m (acc,fig)).2)),s4,s5]) (μ ++ [zaL (zgd m (acc,fig)).1]))=r)→
  K (zcK (zat 4) zia ((List.range' j m).map fun i=>.int (i:Nat)) [s0,some (.ref (μ.length+0)),s2,some (.d (.int fig)),s4,s5] (μ ++ [zaL acc]))=r
 | 0,j,acc,fig,s4,_,h=>zdU (h s4)
 | m+1,j,acc,fig,s4,hl,h=>by
  refine zez ?_
  unfold zia
  refine zaM (zaD (t:=decide (0 < fig)) (zak (zah (zad rfl) zab zaa zaa zhd)) (fun q=>?_) (fun q=>?_))
  ·refine zbb (zbY (zbU (b:=μ) (j:=0) (zad rfl) (zaN rfl) (zah (zad rfl) zab zaa zaa (zb2 (by decide))) rfl (by rw [List.length_map];lia)) ?_)
   refine zau (zah (zad rfl) zab zaa zaa (zmc (by decide))) (zbD (zdp ?_))
   have e:zgd (m+1) (acc,fig)=zgd m (acc ++ [fig % 1024],fig / 1024):=by
    show zgd m (if 0 < fig then _ else _)=_;rw [if_pos (of_decide_eq_true q)]
   rw [e] at h
   have:=zu4 m (j+1) (acc ++ [fig % 1024]) (fig / 1024) (some (.d (.int (j:Nat)))) (by simp;lia) h
   unfold zaL at this
   rw [List.map_append] at this
   exact this
  ·refine zav (zbD (zdp ?_))
   have e:zgd (m+1) (acc,fig)=zgd m (acc,fig):=by
    show zgd m (if 0 < fig then _ else _)=_;rw [if_neg (of_decide_eq_false q)]
   rw [e] at h
   exact zu4 m (j+1) acc fig _ (by lia) h
end
theorem zyv {K:RX Fw→RE} {r:RE} {μ:Mem} {s0 s5:Option V}:∀ (cs acc:List Int) (s2 s3 s4:Option V),acc.length+31 * cs.length≤100000→
  (∀ s2 s3 s4,K (.ok (.next [s0,some (.ref (μ.length+0)),s2,s3,s4,s5]) (μ ++ [zaL (cs.foldl zfw acc)]))=r)→
  K (zcK (zat 2) zgH (cs.map .int) [s0,some (.ref (μ.length+0)),s2,s3,s4,s5] (μ ++ [zaL acc]))=r
 | [],acc,s2,s3,s4,_,h=>zdU (h s2 s3 s4)
 | c :: cs,acc,s2,s3,s4,hl,h=>by
  rw [List.length_cons] at hl
  refine zez ?_
  unfold zgH
  refine zau (v:=.d (.int (zj4 c))) (μ1:=μ ++ [zaL acc]) ?_ ?_
  ·unfold zj4
   by_cases q:0≤c
   ·rw [if_pos q];exact zjO (t:=decide (0≤c)) (zak (zah (zad rfl) zab zaa zaa zmd)) (decide_eq_true q) (zad rfl)
   ·rw [if_neg q];exact zjP (t:=decide (0≤c)) (zak (zah (zad rfl) zab zaa zaa zmd)) (decide_eq_false q) (zah zab (zad rfl) zaa zaa zfg)
  refine zbY (zbU (b:=μ) (j:=0) (zad rfl) (zaN rfl) (zah (zad rfl) zab zaa zaa (zb2 (by decide))) rfl (by rw [List.length_map];lia)) ?_
  refine zau (zah (zad rfl) zab zaa zaa (zmc (by decide))) ?_
  refine zaM (zfh (n:=30) zab (by decide) ?_)
  rw [List.range_eq_range']
  have:=zu4 (K:=kB2 (kB2 K (zkh (zat 2) zgH (cs.map .int))) (zcQ zaz)) (r:=r) (μ:=μ) (s0:=s0) (s2:=some (.d (.int c))) (s5:=s5) 30 0 (acc ++ [zj4 c % 1024]) (zj4 c / 1024) s4 (by simp;lia) (fun s4=>?_)
  ·unfold zaL at this
   rw [List.map_append] at this
   exact this
  ·refine zc8 (zbD (zdp ?_))
   exact zyv cs (zfw acc c) _ _ _ (by have:=zny acc c;lia) h
theorem zu5 {F:EF} {L H:Option EF} {σ:Loc} {b M:Mem} {j:Nat} {v:V} {lo hi:Option Int} {ds:List D} (h:F σ (b ++ M) = .ok v (b ++ M)) (hl:zfq L σ (b ++ M) = .ok lo (b ++ M)) (hu:zfq H σ (b ++ M) = .ok hi (b ++ M)) (hr:res (b ++ M) v=some (.lst ds)) (hd:ds.length≤1000000) (hj:M.length=j):zio F L H σ (b ++ M) = .ok (.ref (b.length+j)) (b ++ (M ++ [.list (slc ds lo hi)])):=by
 unfold zio
 rw [h,bind_ok,hl,bind_ok,hu,bind_ok,hr]
 show (if _ then _ else _)=_
 rw [if_pos hd,zmf hj,List.append_assoc]
theorem zzu {F:EF} {σ:Loc} {b M:Mem} {j:Nat} {ds:List D} (h:F σ (b ++ M) = .ok (.ref (b.length+j)) (b ++ M)) (hg:M[j]? = some (.list ds)) (hd:ds.length≤10000000):zop F σ (b ++ M) = .ok (.d .none) (b ++ M.set j (.list ds.reverse)):=by
 unfold zop
 rw [h,bind_ok,if_pos (zmU (zaN hg))]
 show (atL (b ++ M) (b.length+j)).elim _ _=_
 rw [znX (zaN hg)]
 show (if _ then _ else _)=_
 rw [if_pos hd,zhe]
theorem ztx {μ:Mem} {ns:List Int} (h:ns.length≤63):zij [.d (.lst (ns.map .int))] μ = .ok (.ref μ.length) (μ ++ [zaL (zif ns)]):=by
 refine zzt (zqf _) ?_
 unfold ziR
 have h1:=zlD (slc ns none (some 40)) []
 have h2:=zkz ns none (some 40)
 refine zau (zdV zag rfl rfl) ?_
 refine zs5 (μ1:=μ ++ [.list []]) (ds:=(slc ns none (some 40)).map .int) ?_ ?_
 ·rw [← zu3]
  exact zcz (zad rfl) zcy (zcL zab) zaa (zs2 (by rw [List.length_map];lia))
 refine zyv (slc ns none (some 40)) [] _ _ _ (by simp;lia) (fun s2 s3 s4=>zc8 ?_)
 have hr:zif ns=(slc ((slc ns none (some 40)).foldl zfw []) none (some 160)).reverse:=rfl
 generalize (slc ns none (some 40)).foldl zfw []=acc at *
 have h3:=zkz acc none (some 160)
 simp at h1
 refine zau (zu5 (j:=1) (zad rfl) zcy (zcL zab) (za0 (zaN rfl)) (by rw [List.length_map];lia) rfl) ?_
 refine zbY (zzu (j:=1) (zad rfl) rfl (by rw [zu3,List.length_map];lia)) ?_
 refine zaM (zay (zad rfl) ?_)
 have e:(slc (acc.map D.int) none (some 160)).reverse=(zif ns).map .int:=by rw [hr,zu3,List.map_reverse]
 have:=zyu (μ:=μ) (L:=([zaL acc] ++ [MO.list (slc (acc.map D.int) none (some 160))]).set 1 (.list (slc (acc.map D.int) none (some 160)).reverse)) (j:=1) rfl
 rw [e] at this ⊢
 exact this
noncomputable def Rw.enc:Rw→Int
 | .reg n a b c=>zuC n a b c
 | .br n cond b c=>zmh n cond b c
theorem zty {n:List Nat} (h:n∈zfA):decide (n=zbN)=false→decide (n=zcb)=false→decide (n∈OPS)=false→decide (n∈zeN)=false→slc n none (some (-1))∈OPS:=by
 have key:∀ n∈zfA,(decide (n=zbN) || (decide (n=zcb) || (decide (n∈OPS) || (decide (n∈zeN) || decide (slc n none (some (-1))∈OPS)))))=true:=by decide +kernel
 intro h1 h2 h3 h4
 have:=key n h
 rw [h1,h2,h3,h4] at this
 simpa using this
theorem zpG {r:Rw} (h:r.fine) (μ:Mem):zfM [.d r.d] μ = .ok (.d (.int r.enc)) μ:=by
 cases r with
 | reg n a b c=>
  obtain ⟨h1,_,_,_,h5,_⟩:=zei h.1
  exact zs9 n a b c (by lia) h5 (zns h.1 h.2) (zty h.1) μ
 | br n cond b c=>exact zta n cond b c h.1.1 h.1.2 (zpv h.1.1 h.1.2 h.2) μ
theorem zj5 (f:Nat→Nat):∀ l:List Nat,zaV [] (l.map fun p=>[f p])=l.map f
 | []=>by rw [List.map_nil,zfF];rfl
 | [p]=>by rw [List.map_cons,List.map_nil,zdc];rfl
 | p :: q :: l=>by
  have:=zj5 f (q :: l)
  rw [List.map_cons,List.map_cons] at this ⊢
  rw [zcG,this];rfl
theorem zkA (w:Int):zf7 w=[zfz w 0,zfz w 1,zfz w 2,zfz w 3,zfz w 4,zfz w 5,zfz w 6,zfz w 7]:=by
 unfold zf7;rw [zj5];rfl
noncomputable def zfl (r:Rw) (v:Int):List Nat:=zax v ++ [32] ++ zf7 r.enc ++ [32] ++ zcS r []
noncomputable def zcU (rows:List Rw) (base:Int):Nat→List (List Nat)
 | 0=>[]
 | i+1=>zcU rows base i ++ (match rows[i]? with
  | some r=>[zfl r (base+i)]
  | none=>[])
theorem zms {rows:List Rw} {base:Int} {i:Nat} {r:Rw} (h:rows[i]? = some r):zcU rows base (i+1)=zcU rows base i ++ [zfl r (base+i)]:=by
 show zcU rows base i ++ _=_;rw [h]
theorem zj6 {rows:List Rw} {base:Int}:∀ i,i≤rows.length→(zcU rows base i).length=i∧∀ j r,j < i→rows[j]? = some r→(zcU rows base i)[j]? = some (zfl r (base+j))
 | 0,_=>⟨rfl,fun j r h x_=>absurd h (Nat.not_lt_zero j)⟩
 | i+1,h=>by
  obtain ⟨h1,h2⟩:=zj6 (rows:=rows) (base:=base) i (by lia)
  have hi:rows[i]? = some rows[i]:=List.getElem?_eq_getElem (by lia)
  rw [zms hi]
  refine ⟨by rw [List.length_append,h1];rfl,fun j r hj hr=>?_⟩
  rcases Nat.lt_or_ge j i with q | q
  ·rw [List.getElem?_append_left (by lia)];exact h2 j r q hr
  ·have:j=i:=by lia
   subst this
   rw [hi] at hr
   cases hr
   rw [List.getElem?_append_right (by lia),h1,Nat.sub_self];rfl
theorem ztz {μ:Mem} {k:Nat} {rows:List Rw} (h:μ[k]? = some (.list (rows.map Rw.d))) (hl:rows.length≤100) (hf:∀ r∈rows,r.fine) {base:Int} (hb:-1000000≤base∧base≤1000000):zhh [.ref k,.d (.int base)] μ = .ok (.d (.lst ((zcU rows base rows.length).map .str))) μ:=by
 refine zhf (zrt _ _) ?_
 have hlen:(rows.map Rw.d).length=rows.length:=List.length_map _
 unfold zjG
 have key:∀ (m j:Nat) (s3 s4:Option V),j+m=rows.length→kB2 (zaQ μ.length) (zcQ (zaq (zae 2))) (zcK (zat 3) ziQ ((List.range' j m).map fun i=>.int (i:Nat)) [some (.ref k),some (.d (.int base)),some (.ref (μ.length+0)),s3,s4,none,none,none,none,none] (μ ++ [.list ((zcU rows base j).map .str)])) = .ok (.d (.lst ((zcU rows base rows.length).map .str))) μ:=by
  intro m
  induction m with
  | zero=>
   intro j s3 s4 e
   have:j=rows.length:=by lia
   subst this
   exact zdU (zc8 (zaM (zay (zad rfl) (zgQ rfl rfl))))
  | succ m ih=>
   intro j s3 s4 e
   have hi2:=ih (j+1)
   have hj:rows[j]? = some rows[j]:=List.getElem?_eq_getElem (by lia)
   have hr:=hf _ (List.getElem_mem (by lia:j < rows.length))
   have hll:=(zj6 (rows:=rows) (base:=base) j (by lia)).1
   rw [zms hj] at hi2
   generalize rows[j]=r at *
   have hitem:=zef (rows.map Rw.d) (e:=j) (by lia)
   rw [List.getElem?_map,hj] at hitem
   have hs:zbT (base+j):=⟨by lia,by lia⟩
   obtain ⟨f1,f2⟩:=zdK hs
   have l3:((zcU rows base j).map D.str).length≤10000000:=by rw [List.length_map];lia
   have he:=zpG hr (μ ++ [.list ((zcU rows base j).map .str)])
   have hx:=zrL r.enc (μ ++ [.list ((zcU rows base j).map .str)])
   have ht:=zmn (zd7 hr) [] (Nat.zero_le _) (μ ++ [.list ((zcU rows base j).map .str)])
   rw [← zti] at ht
   have hxl:(zf7 r.enc).length≤8:=by rw [zkA];exact Nat.le_refl _
   have htl:=zfk (zd7 hr) (l:=[]) (Nat.zero_le _)
   refine zez ?_
   unfold ziQ
   refine zau (zah (zad rfl) (zad rfl) (za0 (zf1 h)) zaa hitem) ?_
   refine zaM (zbY (zbU (b:=μ) (L:=[.list ((zcU rows base j).map .str)]) (j:=0) (x:=.str (zfl r (base+j))) (zad rfl) (zaN rfl) ?_ rfl l3) (zbD (zdp ?_)))
   ·refine zbm (a:=0) (c:=100) (zhx (zah (zad rfl) (zad rfl) zaa zaa zaZ) f1) (Nat.le_refl _) f2 (by decide) fun h1=>?_
    refine zbm (c:=1) zab h1 (Nat.le_refl _) (by decide) fun h2=>?_
    refine zbm (c:=8) (ze2 (zas (zaf (zas (zaf (zad rfl) zag) rfl he) zag) rfl hx) hxl (by decide)) h2 hxl (by decide) fun h3=>?_
    refine zbm (c:=1) zab h3 (Nat.le_refl _) (by decide) fun h4=>?_
    refine zbm (c:=3000) (ze2 (zas (zaf (zad rfl) zag) rfl ht) htl (by decide)) h4 htl (by decide) fun h5=>?_
    exact ziw
   ·have e2:[MO.list ((zcU rows base j).map .str)].set 0 (.list ((zcU rows base j).map D.str ++ [.str (zfl r (base+j))]))=[.list ((zcU rows base j ++ [zfl r (base+j)]).map .str)]:=by rw [List.map_append];rfl
    rw [e2]
    exact hi2 _ _ (by lia)
 refine zau (zdV zag rfl rfl) ?_
 refine zfh (n:=rows.length) (μ1:=μ ++ [.list []]) ?_ (by lia) ?_
 ·refine zaF (zaf (zad rfl) zag) (zan (za0 (zf1 h)) zaA) ?_
  rw [zdg (by lia),hlen]
 ·rw [List.range_eq_range']
  exact key rows.length 0 _ _ (by lia)
noncomputable def zbL (n:List Nat):List Nat:=bif decide (zeB n=[]) then n else zeB n
noncomputable def ze9 (cs:List (List Nat×Int)) (n:List Nat):List (List Nat×Int):=if n∈cs.map (·.1) then cs.map fun p=>if p.1=n then (p.1,p.2+1) else p else cs ++ [(n,1)]
noncomputable def zbp (rows:List Rw):Nat→List (List Nat×Int)
 | 0=>[]
 | i+1=>match rows[i]? with
  | some r=>ze9 (zbp rows i) (zbL r.nm)
  | none=>zbp rows i
theorem zge {rows:List Rw} {i:Nat} {r:Rw} (h:rows[i]? = some r):zbp rows (i+1)=ze9 (zbp rows i) (zbL r.nm):=by
 show (match rows[i]? with
  | some r=>ze9 (zbp rows i) (zbL r.nm)
  | none=>zbp rows i)=_;rw [h]
theorem zu6 (cs:List (List Nat×Int)) (n:List Nat):(ze9 cs n).length≤cs.length+1:=by
 unfold ze9;split <;> simp
theorem zh0 (rows:List Rw):∀ i,(zbp rows i).length≤i
 | 0=>Nat.le_refl _
 | i+1=>by
  have h:=zh0 rows i
  cases hr:rows[i]? with
  | none=>
   have e:zbp rows (i+1)=zbp rows i:=by
    show (match rows[i]? with
     | some r=>ze9 (zbp rows i) (zbL r.nm)
     | none=>zbp rows i)=_
    rw [hr]
   rw [e];lia
  | some r=>rw [zge hr];have:=zu6 (zbp rows i) (zbL r.nm);lia
theorem zr1 (cs:List (List Nat×Int)) (n:List Nat):((zeW (zbf cs) n).getD (.int 0)) = .int ((zbB cs n).getD 0):=by
 rw [zjV];cases zbB cs n <;> rfl
theorem znz (cs:List (List Nat×Int)) (n:List Nat):(zbB cs n).isSome=decide (n∈cs.map (·.1)):=by
 rw [← zkt]
 unfold zbf;rw [List.map_map];rfl
theorem zr2 (cs:List (List Nat×Int)) (hn:(cs.map (·.1)).Nodup) (n:List Nat):zfc (zbf cs) n (.int ((zbB cs n).getD 0+1))=zbf (ze9 cs n):=by
 have hi:=znz cs n
 by_cases h:n∈cs.map (·.1)
 ·rw [decide_eq_true h] at hi
  obtain ⟨v,hv⟩:=Option.isSome_iff_exists.mp hi
  have hmem:(n,v)∈cs:=by
   unfold zbB at hv
   obtain ⟨p,hp,rfl⟩:=Option.map_eq_some_iff.mp hv
   have h1:=List.mem_of_find?_eq_some hp
   have h2:=List.find?_some hp
   have h3:p.1=n:=by simpa using h2
   rw [← h3];exact h1
  unfold zfc ze9
  rw [if_pos h,hv]
  have ha:(zbf cs).any (fun p=>decide (p.1=n))=true:=by
   rw [List.any_eq_true]
   exact ⟨(n,.int v),List.mem_map.mpr ⟨(n,v),hmem,rfl⟩,by simp⟩
  rw [ha,if_pos rfl]
  unfold zbf
  rw [List.map_map,List.map_map]
  apply List.map_congr_left
  intro p hp
  show (if p.1=n then (p.1,D.int ((some v).getD 0+1)) else (p.1,D.int p.2))=((if p.1=n then (p.1,p.2+1) else p).1,D.int (if p.1=n then (p.1,p.2+1) else p).2)
  by_cases q:p.1=n
  ·have:p.2=v:=by
    have key:∀ cs:List (List Nat×Int),(cs.map (·.1)).Nodup→(n,v)∈cs→p∈cs→p.2=v:=by
     intro cs
     induction cs with
     | nil=>intro _ h;exact nomatch h
     | cons x cs ih=>
      intro hn h1 h2
      rw [List.map_cons,List.nodup_cons] at hn
      rcases List.mem_cons.mp h1 with rfl | h1'
      ·rcases List.mem_cons.mp h2 with rfl | h2
       ·rfl
       ·exact absurd (List.mem_map.mpr ⟨p,h2,q⟩) hn.1
      ·rcases List.mem_cons.mp h2 with rfl | h2
       ·have hh:p.1∈cs.map (·.1):=List.mem_map.mpr ⟨(n,v),h1',q.symm⟩
        exact absurd hh hn.1
       ·exact ih hn.2 h1' h2
    exact key cs hn hmem hp
   rw [if_pos q,if_pos q,this];rfl
  ·rw [if_neg q,if_neg q]
 ·rw [decide_eq_false h] at hi
  have hv:zbB cs n=none:=by simpa using hi
  unfold zfc ze9
  rw [if_neg h,hv]
  have ha:(zbf cs).any (fun p=>decide (p.1=n))=false:=by
   rw [List.any_eq_false]
   intro p hp
   obtain ⟨q,hq,rfl⟩:=List.mem_map.mp hp
   simp only [decide_eq_true_eq]
   exact fun e=>h (List.mem_map.mpr ⟨q,hq,e⟩)
  rw [ha]
  unfold zbf
  rw [List.map_append];rfl
theorem zr3 {cs:List (List Nat×Int)} (hn:(cs.map (·.1)).Nodup) (n:List Nat):((ze9 cs n).map (·.1)).Nodup:=by
 unfold ze9
 by_cases h:n∈cs.map (·.1)
 ·rw [if_pos h,List.map_map]
  have:((fun x:List Nat×Int=>x.1)∘fun p=>if p.1=n then (p.1,p.2+1) else p)=fun p=>p.1:=by
   funext p
   show (if p.1=n then (p.1,p.2+1) else p).1=p.1
   split <;> rfl
  rw [this];exact hn
 ·rw [if_neg h,List.map_append]
  rw [List.nodup_append]
  refine ⟨hn,by simp,?_⟩
  intro a ha b hb e
  simp at hb
  subst e;subst hb
  exact h ha
theorem zfm (rows:List Rw):∀ i,((zbp rows i).map (·.1)).Nodup
 | 0=>List.nodup_nil
 | i+1=>by
  cases hr:rows[i]? with
  | none=>
   have e:zbp rows (i+1)=zbp rows i:=by
    show (match rows[i]? with
     | some r=>ze9 (zbp rows i) (zbL r.nm)
     | none=>zbp rows i)=_;rw [hr]
   rw [e];exact zfm rows i
  | some r=>rw [zge hr];exact zr3 (zfm rows i) _
theorem zu7 {μ:Mem} {k:Nat} {kvs:List (List Nat×D)} (h:μ[k]? = some (.dcS kvs)):zfU "dict" (.ref k) μ=true:=by unfold zfU;rw [zfE h];rfl
theorem zlE {K:RX Fw→RE} {r:RE} {σ:Loc} {b L:Mem} {iN iC j:Nat} {R:CF} {cs:List (List Nat×Int)} {n:List Nat} (hN:σ[iN]? = some (some (.d (.str n)))) (hC:σ[iC]? = some (some (.ref (b.length+j)))) (hg:L[j]? = some (.dcS (zbf cs))) (hn:(cs.map (·.1)).Nodup) (hl:cs.length≤1000) (h2:K (R σ (b ++ L.set j (.dcS (zbf (ze9 cs n)))))=r) :
  K (zaj (zeH (zai zaH (zb9 "dict" zn0 (zae iC) [(zae iN),(zac (.int 0))]) (zac (.int 1))) (zae iC) (zae iN)) R σ (b ++ L))=r:=by
 have hg':(b ++ L)[b.length+j]? = some (.dcS (zbf cs)):=zaN hg
 refine zmW (v:=.d (.int ((zbB cs n).getD 0+1))) (μ1:=b ++ L) (μ4:=b ++ L.set j (.dcS (zbf (ze9 cs n)))) ?_ (zad hC) (zad hN) ?_ h2
 ·refine zah (zco (z:=.int ((zbB cs n).getD 0)) (zad hC) (zu7 hg') (zaf (zad hN) (zaf zab zag)) (zan (zfE hg') (zan zaa (zan zaa zaA))) ?_) zab zaa zaa zaZ
  show some ((zeW (zbf cs) n).getD (.int 0))=_
  rw [zr1]
 ·rw [zng hg' (by unfold zbf;rw [List.length_map];exact hl),zr2 cs hn n,zhe]
noncomputable def zkB (cs:List (List Nat×Int)):List (List Nat):=zjo (cs.map (·.1))
theorem zj7 {cs:List (List Nat×Int)} {n:List Nat} (h:n∈zkB cs):n∈cs.map (·.1):=(List.mergeSort_perm _ _).mem_iff.mp h
theorem zj8 (cs:List (List Nat×Int)):(zkB cs).length=cs.length:=by unfold zkB zjo;rw [List.length_mergeSort,List.length_map]
theorem zpH {f:D→Option D} {g:List Nat→D}:∀ {l:List (List Nat)},(∀ n∈l,f (.str n)=some (g n))→zgp f (l.map .str)=some (l.map g)
 | [],_=>rfl
 | n :: l,h=>by
  have h1:=h n (List.mem_cons_self ..)
  have h2:=zpH (f:=f) (g:=g) (l:=l) fun x hx=>h x (List.mem_cons_of_mem _ hx)
  rw [List.map_cons,List.map_cons]
  unfold zgp
  rw [h1,h2]
theorem zpI {σ:Loc} {μ:Mem} {i k:Nat} {cs:List (List Nat×Int)} (hs:σ[i]? = some (some (.ref k))) (hg:μ[k]? = some (.dcS (zbf cs))) {n:List Nat} (h:n∈cs.map (·.1)):zhP i σ μ (.str n)=some (.int ((zbB cs n).getD 0)):=by
 unfold zhP
 rw [hs]
 dsimp only
 rw [zfE hg]
 show zeW (zbf cs) n=_
 rw [zjV]
 have hi:=znz cs n
 rw [decide_eq_true h] at hi
 obtain ⟨v,hv⟩:=Option.isSome_iff_exists.mp hi
 rw [hv];rfl
theorem zqX {σ:Loc} {μ:Mem} {i k:Nat} {cs:List (List Nat×Int)} (hs:σ[i]? = some (some (.ref k))) (hg:μ[k]? = some (.dcS (zbf cs))) (hl:cs.length < 64):zaI zdf [(zae i)] σ μ = .ok (.d (.lst ((zkB cs).map .str))) μ:=by
 refine zaF (zaf (zad hs) zag) (zan (zfE hg) zaA) ?_
 show (if _ then _ else _)=_
 rw [if_pos (by unfold zbf;rw [List.length_map];exact hl)]
 unfold zbf;rw [List.map_map];rfl
theorem zqY {σ:Loc} {i:Nat} {v:V} (hs:σ[i]? = some (some v)):zdr i σ=true:=by unfold zdr;rw [hs]
theorem ztA {pre:Loc→Bool} {F:EF} {f:Loc→Mem→D→Option D} {g:List Nat→D} {ks:List (List Nat)} {σ:Loc} {μ μ1:Mem} (hp:pre σ=true) (hF:F σ μ = .ok (.d (.lst (ks.map .str))) μ1) (hl:ks.length≤1000) (h:∀ n∈ks,f σ μ1 (.str n)=some (g n)):zeY pre F f σ μ = .ok (.d (.lst (ks.map g))) μ1:=by
 unfold zeY
 rw [if_pos hp,hF,bind_ok]
 show (if (ks.map D.str).length≤1000000 then (match zgp (f σ μ1) (ks.map D.str) with
  | some es=>RX.ok (V.d (.lst es)) μ1
  | none=>.stuck) else .stuck)=_
 rw [if_pos (by rw [List.length_map];lia),zpH h]
noncomputable def zi5 (cs:List (List Nat×Int)):List D:=(zkB cs).map fun n=>.tup [.str n,.int ((zbB cs n).getD 0)]
noncomputable def zoa (cs:List (List Nat×Int)):List D:=(zkB cs).map fun n=>.lst [.str n,.int ((zbB cs n).getD 0)]
theorem ztB {r:Rw} (h:r.fine):r.nm.length≤200:=by
 cases r with
 | reg n a b c=>have:=(zei h.1).1;show n.length≤_;lia
 | br n cond b c=>exact (zi4 h.1.1).2
theorem zpJ {μ:Mem} {k:Nat} {rows:List Rw} (h:μ[k]? = some (.list (rows.map Rw.d))) (hl:rows.length≤50) (hf:∀ r∈rows,r.fine):zfx [.ref k] μ = .ok (.d (.lst (zi5 (zbp rows rows.length)))) μ:=by
 refine zhf (znL _) ?_
 have hlen:(rows.map Rw.d).length=rows.length:=List.length_map _
 unfold zjH zg1 zg2
 have key:∀ (m j:Nat) (s2 s3:Option V),m+j=rows.length+1→j≤rows.length→kB2 (zaQ μ.length) (zcQ (zaq (zeY (zdr 1) (zaI zdf [(zae 1)]) (zrl 1)))) (zc6 (zcP (.ref k)) (zat 2) zg0 m j [some (.ref k),some (.ref (μ.length+0)),s2,s3,none,none] (μ ++ [.dcS (zbf (zbp rows j))])) = .ok (.d (.lst (zi5 (zbp rows rows.length)))) μ:=by
  intro m
  induction m with
  | zero=>intro j s2 s3 e1 e2;lia
  | succ m ih=>
   intro j s2 s3 e1 e2
   have hcl:=zh0 rows j
   rcases Nat.lt_or_ge j rows.length with q | q
   ·have hj:rows[j]? = some rows[j]:=List.getElem?_eq_getElem q
    have hr:=hf _ (List.getElem_mem q)
    have hi2:=ih (j+1)
    rw [zge hj] at hi2
    generalize rows[j]=r at *
    have hnl:=ztB hr
    obtain ⟨x,y,ed⟩:=r.d_form
    have hd:(rows.map Rw.d)[j]? = some (za9 r.nm x (.int r.b2) y):=by rw [List.getElem?_map,hj,← ed];rfl
    refine zs8 (zf1 h) hd rfl ?_
    unfold zg0
    have hnm:∀ σ μ,(σ:Loc)[2]? = some (some (.d (za9 r.nm x (.int r.b2) y)))→zai zap (zae 2) (zac (.int 0)) σ μ = .ok (.d (.str r.nm)) μ:=fun σ μ e=>zah (zad e) zab zaa zaa (za4 (by decide) rfl)
    refine zau (hnm _ _ rfl) ?_
    have him:=zbV r.nm (by lia) (μ ++ [.dcS (zbf (zbp rows j))])
    refine zaD (t:=!decide (zeB r.nm=[])) (zak (zah (zas (zaf (zad rfl) zag) rfl him) zab zaa zaa zcm)) (fun t=>?_) (fun t=>?_)
    ·refine zau (zas (zaf (zad rfl) zag) rfl him) ?_
     have e:zbL r.nm=zeB r.nm:=by unfold zbL;rw [show decide (zeB r.nm=[])=false by simpa using t];rfl
     rw [e] at hi2
     refine zaM (zlE (b:=μ) (j:=0) rfl rfl rfl (zfm rows j) (by lia) (zbD (zo7 ?_)))
     exact hi2 _ _ (by lia) q
    ·refine zav ?_
     have e:zbL r.nm=r.nm:=by unfold zbL;rw [show decide (zeB r.nm=[])=true by simpa using t];rfl
     rw [e] at hi2
     refine zaM (zlE (b:=μ) (j:=0) rfl rfl rfl (zfm rows j) (by lia) (zbD (zo7 ?_)))
     exact hi2 _ _ (by lia) q
   ·have:j=rows.length:=by lia
    subst this
    refine zqH (zf1 h) (List.getElem?_eq_none (by lia)) (zc8 (zaM (zay (μ1:=μ ++ [.dcS (zbf (zbp rows rows.length))]) ?_ (zf2 rfl))))
    refine ztA (zqY rfl) (zqX rfl (zaN rfl) (by lia)) (by rw [zj8];lia) fun n hn=>?_
    show (zhP 1 _ _ (.str n)).map _=_
    rw [zpI rfl (zaN rfl) (zj7 hn)];rfl
 refine zav (zau (zlx rfl) ?_)
 refine zs7 (zad rfl) (zf1 h) ?_
 rw [hlen]
 exact key (rows.length+1) 0 _ _ (by lia) (Nat.zero_le _)
section
variable {b T:Mem} {l:List Int}
theorem zhm {X:MO}:(b ++ (X :: T)).set (b.length+0) (zaL l)=b ++ (zaL l :: T):=zhe
theorem zpK {X:MO}:b.length+0 < (b ++ (X :: T)).length:=by simp
theorem zmt (hl:za8 l):zaB [.ref (b.length+0)] (b ++ (zaL l :: T)) = .ok (.d (.int (nx l))) (b ++ (zaL (rest l) :: T)):=by
 have:=zbo (μ:=b ++ (zaL l :: T)) (k:=b.length+0) zpK hl
 rw [zhm,zhm] at this;exact this
theorem zyw (hl:za8 l):∃ r l',Rw.form r∧za8 l'∧zeU [.ref (b.length+0)] (b ++ (zaL l :: T)) = .ok (.d r.d) (b ++ (zaL l' :: T)):=by
 obtain ⟨r,l',h1,h2,h3⟩:=zrP (μ:=b ++ (zaL l :: T)) (k:=b.length+0) zpK hl
 rw [zhm,zhm] at h3;exact ⟨r,l',h1,h2,h3⟩
theorem zwF {r:Rw} (hr:r.fine) {mark:Option (List Nat)} (hl:za8 l):∃ l' long,za8 l'∧r.lowZ long∧zct [.ref (b.length+0),.d r.d,.d (zgL mark)] (b ++ (zaL l :: T)) = .ok (.d (.lst ((zcM r mark long).map .str))) (b ++ (zaL l' :: T)):=by
 cases r with
 | reg n a b' c=>
  have hg:zhC a b' c:=(zd7 hr).2
  obtain ⟨_,h2,_,_,_,h6,h7⟩:=zei hr.1
  cases hm:decide (n∈zhD) with
  | true=>
   obtain ⟨l',long,q1,q2,q3⟩:=zpm (μ:=b ++ (zaL l :: T)) (k:=b.length+0) zpK hl n a b' c (zgL mark) hm hg
   rw [zhm,zhm] at q3
   refine ⟨l',long,q1,fun x_=>q2,?_⟩
   show _=RX.ok (V.d (.lst ((bif decide (n∈zhD) then ziC n a b' c long else zf9 n a b' c).map .str))) _
   rw [hm];exact q3
  | false=>
   refine ⟨l,true,hl,fun h=>.inr rfl,?_⟩
   show _=RX.ok (V.d (.lst ((bif decide (n∈zhD) then ziC n a b' c true else zf9 n a b' c).map .str))) _
   rw [hm]
   exact zpn _ n a b' c (zgL mark) hm h2 h6 h7 hg
 | br n cond b' c=>
  have hg:=(zd7 hr).2
  exact ⟨l,true,hl,trivial,zpl _ n cond b' c mark hr.1.1 hg.1.1 hg.1.2 hg.2.1 hg.2.2⟩
end
theorem zwG {r:Rw} (h:r.form) (μ:Mem):zdw [.d r.d] μ = .ok (.d (.bool r.snd)) μ:=by
 cases r with
 | reg n a b c=>
  obtain ⟨_,h2,_,_,_,h6,h7⟩:=zei h
  exact zpk n a b c h6 h7 h2 μ
 | br n cond b c=>exact zpj n (.str cond) b c h.1 μ
theorem zu8 {r:Rw} (h:r.form) (hn:r.nm∈[sB,sBL]) (v:Int):∃ cond r',r.d=za9 r.nm (.str cond) (.int r.b2) (.int (match r with | .reg _ _ _ c=>c | .br _ _ _ c=>c))∧Rw.form r'∧r'.d=za9 r.nm (.str cond) (.int v) (.int 0):=by
 cases r with
 | reg n a b c=>
  have h6:=(zei h).2.2.2.2.2.1
  rw [decide_eq_true (show n∈[sB,sBL] from hn)] at h6
  exact Bool.noConfusion h6
 | br n cond b c=>exact ⟨cond,.br n cond v 0,rfl,h,rfl⟩
theorem zu9 {K:RX Fw→RE} {r:RE} {b:Mem} {s0:Option V} {q:Loc}:∀ (m j:Nat) (l:List Int) (rows:List Rw) (s3 s4:Option V),za8 l→rows.length+m≤9→(∀ r∈rows,r.fine)→
  (∀ (l:List Int) (rows:List Rw) (s3 s4:Option V),za8 l→rows.length≤9→(∀ r∈rows,Rw.fine r)→K (.ok (.next (s0 :: some (.ref (b.length+0)) :: some (.ref (b.length+1)) :: s3 :: s4 :: q)) (b ++ [zaL l,.list (rows.map Rw.d)]))=r)→
  K (zcK (zat 3) zma ((List.range' j m).map fun i=>.int (i:Nat)) (s0 :: some (.ref (b.length+0)) :: some (.ref (b.length+1)) :: s3 :: s4 :: q) (b ++ [zaL l,.list (rows.map Rw.d)]))=r
 | 0,j,l,rows,s3,s4,hl,hr,hf,h=>zdU (h l rows s3 s4 hl (by lia) hf)
 | m+1,j,l,rows,s3,s4,hl,hr,hf,h=>by
  refine zez ?_
  unfold zma
  obtain ⟨rw0,l1,f1,f2,f3⟩:=zyw (b:=b) (T:=[.list (rows.map Rw.d)]) hl
  refine zau (zas (zaf (zad rfl) zag) rfl f3) ?_
  have step:∀ (rw1:Rw) (l2:List Int),rw1.form→za8 l2→kB2 K (zkh (zat 3) zma ((List.range' (j+1) m).map fun i=>.int (i:Nat))) (kIf (tst (zaw zdw 1 [(zae 4)])) (zaY (zbH (zae 2) (zae 4))) zaz (s0 :: some (.ref (b.length+0)) :: some (.ref (b.length+1)) :: some (.d (.int (j:Nat))) :: some (.d rw1.d) :: q) (b ++ [zaL l2,.list (rows.map Rw.d)]))=r:=by
   intro rw1 l2 g1 g2
   refine zaM (zaD (t:=rw1.snd) (zak (zas (zaf (zad rfl) zag) rfl (zwG g1 _))) (fun t=>?_) (fun t=>?_))
   ·refine zbY (zbU (b:=b) (L:=[zaL l2,.list (rows.map Rw.d)]) (j:=1) (zad rfl) (zaN rfl) (zad rfl) rfl (by rw [List.length_map];lia)) (zbD (zdp ?_))
    have:=zu9 (K:=K) (r:=r) (b:=b) (s0:=s0) (q:=q) m (j+1) l2 (rows ++ [rw1]) (some (.d (.int (j:Nat)))) (some (.d rw1.d)) g2 (by simp;lia) (fun x hx=>by
     rcases List.mem_append.mp hx with hx | hx
     ·exact hf x hx
     ·rw [List.mem_singleton.mp hx];exact ⟨g1,t⟩) h
    rw [List.map_append] at this
    exact this
   ·refine zav (zbD (zdp ?_))
    exact zu9 m (j+1) l2 rows _ _ g2 (by lia) hf h
  have hd:∀ μ σ,(σ:Loc)[4]? = some (some (.d rw0.d))→zai zap (zae 4) (zac (.int 0)) σ μ = .ok (.d (.str rw0.nm)) μ:=fun μ σ e=>by
   obtain ⟨x,y,ed⟩:=rw0.d_form
   rw [ed] at e
   exact zah (zad e) zab zaa zaa (za4 (by decide) rfl)
  have hin:∀ μ σ,(σ:Loc)[4]? = some (some (.d rw0.d))→tst (zai (opC .In) (zai zap (zae 4) (zac (.int 0))) (zaW [(zac (.str [66])),(zac (.str [66,76]))])) σ μ = .ok (decide (rw0.nm∈[sB,sBL])) μ:=fun μ σ e=>
   zak (zah (hd _ _ e) (za2 (zaf zab (zaf zab zag)) rfl) zaa zaa (zbX rfl))
  cases hB:decide (rw0.nm∈[sB,sBL]) with
  | false=>
   exact zaD (t:=false) (zs1 (hin _ _ rfl) hB) (fun t=>Bool.noConfusion t) (fun x_=>zav (step rw0 l1 f1 f2))
  | true=>
   refine zaD (t:=decide (0 < nx l1 % 3)) (zo3 (hin _ _ rfl) hB (zc4 (zak (zah (zah (zas (zaf (zad rfl) zag) rfl (zmt f2)) zab zaa zaa (zb2 (by decide))) zab zaa zaa zhd)))) (fun t=>?_) (fun t=>zav (step rw0 _ f1 (zao f2)))
   obtain ⟨cond,rw1,e1,e2,e3⟩:=zu8 f1 (of_decide_eq_true hB) (nx (rest l1) % 10 - 5)
   refine zau (v:=.d rw1.d) (μ1:=b ++ (zaL (rest (rest l1)) :: [.list (rows.map Rw.d)])) ?_ (step rw1 _ e2 (zao (zao f2)))
   rw [e3]
   refine za2 (zaf (hd _ _ rfl) (zaf (v:=.d (.str cond)) (zah (x:=rw0.d) (zad rfl) zab zaa zaa ?_) (zaf (zah (zah (zas (zaf (zad rfl) zag) rfl (zmt (zao f2))) zab zaa zaa (zb2 (by decide))) zab zaa zaa zfg) (zaf zab zag)))) rfl
   rw [e1]
   exact za4 (by decide) rfl
noncomputable def zce (r:Rw) (i:Nat):Int:=bif decide (r.nm∈[sB,sBL]) then (i:Int)+1+r.b2 else -1
theorem zpL {rows:List Rw} {i:Nat} {r:Rw} (h:rows[i]? = some r):za5 rows i=bif decide (0≤zce r i) && decide (zce r i≤rows.length) then zce r i else -1:=by
 unfold za5 zce
 rw [h]
 dsimp only
 unfold tgt
 have e:decide (r.nm∈[sB,sBL])=(decide (r.nm=sB) || decide (r.nm=sBL)):=by
  rw [Bool.eq_iff_iff];simp
 rw [e]
 cases q:(decide (r.nm=sB) || decide (r.nm=sBL)) with
 | false=>
  have:(!decide (r.nm=sB) && !decide (r.nm=sBL))=true:=by rw [← Bool.not_or,q];rfl
  rw [this];rfl
 | true=>
  have:(!decide (r.nm=sB) && !decide (r.nm=sBL))=false:=by rw [← Bool.not_or,q];rfl
  rw [this,cond_false,cond_true]
  by_cases h1:(i:Int)+1+r.b2 < 0
  ·rw [decide_eq_true h1,decide_eq_false (show ¬ 0≤(i:Int)+1+r.b2 by lia)];rfl
  ·rw [decide_eq_false h1,decide_eq_true (show 0≤(i:Int)+1+r.b2 by lia)]
   by_cases h2:(rows.length:Int) < (i:Int)+1+r.b2
   ·rw [decide_eq_true h2,decide_eq_false (show ¬ (i:Int)+1+r.b2≤rows.length by lia)];rfl
   ·rw [decide_eq_false h2,decide_eq_true (show (i:Int)+1+r.b2≤rows.length by lia)];rfl
noncomputable abbrev zr4:EF:=zbE (tst (zai (opC .In) (zai zap (zai zap (zae 2) (zae 7)) (zac (.int 0))) (zaW [(zac (.str [66])),(zac (.str [66,76]))]))) (zai zaH (zai zaH (zae 7) (zac (.int 1))) (zai zap (zai zap (zae 2) (zae 7)) (zac (.int 2)))) (zcW (zac (.int 1)))
section
variable {σ:Loc} {μ:Mem} {k j:Nat} {rows:List Rw} {r:Rw}
theorem zmu (h2:σ[2]? = some (some (.ref k))) (h7:σ[7]? = some (some (.d (.int (j:Nat))))) (hm:μ[k]? = some (.list (rows.map Rw.d))) (hl:rows.length≤100) (hr:rows[j]? = some r):zai zap (zae 2) (zae 7) σ μ = .ok (.d r.d) μ:=by
 have hj:=(List.getElem?_eq_some_iff.mp hr).1
 have hitem:=zef (rows.map Rw.d) (e:=j) (by lia)
 rw [List.getElem?_map,hr] at hitem
 exact zah (zad h2) (zad h7) (za0 hm) zaa hitem
theorem zvw (h2:σ[2]? = some (some (.ref k))) (h7:σ[7]? = some (some (.d (.int (j:Nat))))) (hm:μ[k]? = some (.list (rows.map Rw.d))) (hl:rows.length≤100) (hr:rows[j]? = some r):zai zap (zai zap (zae 2) (zae 7)) (zac (.int 0)) σ μ = .ok (.d (.str r.nm)) μ:=by
 have h:=zmu h2 h7 hm hl hr
 obtain ⟨x,y,ed⟩:=r.d_form
 rw [ed] at h
 exact zah h zab zaa zaa (za4 (by decide) rfl)
theorem zqZ (h2:σ[2]? = some (some (.ref k))) (h7:σ[7]? = some (some (.d (.int (j:Nat))))) (hm:μ[k]? = some (.list (rows.map Rw.d))) (hl:rows.length≤100) (hr:rows[j]? = some r):zr4 σ μ = .ok (.d (.int (zce r j))) μ:=by
 have h:=zmu h2 h7 hm hl hr
 have hn:=zvw h2 h7 hm hl hr
 obtain ⟨x,y,ed⟩:=r.d_form
 rw [ed] at h
 unfold zr4 zce
 refine zjQ (zak (zah hn (za2 (zaf zab (zaf zab zag)) rfl) zaa zaa (zbX rfl))) (fun x_=>?_) (fun x_=>?_)
 ·exact zah (zah (zad h7) zab zaa zaa zaZ) (zah h zab zaa zaa (za4 (by decide) rfl)) zaa zaa zaZ
 ·exact zdz zab
end
theorem zva {K:RX Fw→RE} {r:RE} {b:Mem} {l:List Int} {rows:List Rw} (hl:rows.length≤9) {s0 s1 s3 s4:Option V} {q:Loc}
  (h:∀ (s7 s8:Option V),K (.ok (.next (s0 :: s1 :: some (.ref (b.length+1)) :: s3 :: s4 :: some (.d (.int (rows.length:Nat))) :: some (.ref (b.length+2)) :: s7 :: s8 :: q)) (b ++ [zaL l,.list (rows.map Rw.d),.dcI (zbi [97,116,95] (zaJ rows rows.length))]))=r):∀ (m j:Nat) (s7 s8:Option V),j+m=rows.length→
  K (zcK (zat 7) zoT ((List.range' j m).map fun i=>.int (i:Nat)) (s0 :: s1 :: some (.ref (b.length+1)) :: s3 :: s4 :: some (.d (.int (rows.length:Nat))) :: some (.ref (b.length+2)) :: s7 :: s8 :: q) (b ++ [zaL l,.list (rows.map Rw.d),.dcI (zbi [97,116,95] (zaJ rows j))]))=r
 | 0,j,s7,s8,e=>by
  have:j=rows.length:=by lia
  subst this
  exact zdU (h s7 s8)
 | m+1,j,s7,s8,e=>by
  have hj:rows[j]? = some rows[j]:=List.getElem?_eq_getElem (by lia)
  generalize rows[j]=rw0 at hj
  have ht:=zpL hj
  have hkl:=zi2 rows j
  have ek:zaJ rows (j+1)=zhF (zaJ rows j) (za5 rows j):=rfl
  refine zez ?_
  unfold zoT
  refine zau (zqZ (k:=b.length+1) (j:=j) (rows:=rows) (r:=rw0) rfl rfl (zaN rfl) (by lia) hj) ?_
  refine zaM (zaD (t:=decide (0≤zce rw0 j) && decide (zce rw0 j≤(rows.length:Nat))) (zeL zab (zad rfl) zfu (zad rfl) zfu) (fun t=>?_) (fun t=>?_))
  ·rw [t,cond_true] at ht
   rw [Bool.and_eq_true,decide_eq_true_eq,decide_eq_true_eq] at t
   have hs:zbT (zce rw0 j):=⟨by lia,by lia⟩
   obtain ⟨f1,f2⟩:=zdK hs
   refine zpr (b:=b) (L:=[zaL l,.list (rows.map Rw.d),.dcI (zbi [97,116,95] (zaJ rows j))]) (j:=2) (kvs:=zbi [97,116,95] (zaJ rows j)) (t:=zce rw0 j) (x:=.str ([97,116,95] ++ zax (zce rw0 j))) ?_ (zad rfl) (zad rfl) rfl (by unfold zbi;rw [List.length_map];lia) (zbD (zdp ?_))
   ·exact zah zab (zaF (zaf (zad rfl) zag) (zan zaa zaA) (zca f1)) zaa zaa (zbg (c:=3) (d:=100) (Nat.le_refl _) f2 (by decide))
   ·rw [zk5]
    have e2:zjY (zaJ rows j) (zce rw0 j)=zaJ rows (j+1):=by rw [ek,ht];unfold zhF;rw [decide_eq_true t.1];rfl
    rw [e2]
    exact zva hl h m (j+1) _ _ (by lia)
  ·rw [t,cond_false] at ht
   refine zav (zbD (zdp ?_))
   have e2:zaJ rows j=zaJ rows (j+1):=by rw [ek,ht];rfl
   rw [e2]
   exact zva hl h m (j+1) _ _ (by lia)
structure LOk (rows:List Rw) (N i i':Nat) (ls:List (List Nat)):Prop where
 run:Run [97,116,95] rows (zaJ rows rows.length) i i' ls
 ok:∀ l∈ls,10∉l∧l.length≤5000
 len:ls.length≤N
theorem LOk.add {rows:List Rw} {N i i' k k':Nat} {ls:List (List Nat)} {l:List Nat} (h:LOk rows N i i' ls) (hr:Run [97,116,95] rows (zaJ rows rows.length) k k' (ls ++ [l])) (h1:10∉l) (h2:l.length≤5000):LOk rows (N+1) k k' (ls ++ [l]):=by
 refine ⟨hr,fun x hx=>?_,by rw [List.length_append];have:=h.len;simp;lia⟩
 rcases List.mem_append.mp hx with hx | hx
 ·exact h.ok x hx
 ·rw [List.mem_singleton.mp hx];exact ⟨h1,h2⟩
theorem LOk.up {rows:List Rw} {N M i i':Nat} {ls:List (List Nat)} (h:LOk rows N i i' ls) (hm:N≤M):LOk rows M i i' ls:=⟨h.run,h.ok,Nat.le_trans h.len hm⟩
noncomputable def zmv (rows:List Rw) (N i:Nat) (head:List Nat) (ls:List (List Nat)):Prop:=
 (head=[]∧LOk rows N i (i+1) ls)∨((i:Int)∈zaJ rows rows.length∧(∃ v:Int,head=([97,116,95] ++ zax (i:Int)) ++ za1 [[58],[32,58],[58,32]] (v % 3))∧LOk rows N i i ls)
theorem zkC (a b c:List Nat) (v:Int):za1 [a,b,c] (v % 3)=a∨za1 [a,b,c] (v % 3)=b∨za1 [a,b,c] (v % 3)=c:=by
 have:=zeP (L:=[a,b,c]) (v:=v) (n:=3) rfl (by simp)
 simpa using this
theorem znA {w s:List Nat} (h:zb6 w=true) (v:Int):lex (w ++ za1 [[58],[32,58],[58,32]] (v % 3) ++ s)=(lex s).map fun ts=>w :: [58] :: ts:=by
 rcases zkC [58] [32,58] [58,32] v with e | e | e <;> rw [e]
 ·rw [List.append_assoc,zby h rfl]
  show (lex (58 :: s)).map _=_
  rw [zcq _ (by decide),Option.map_map];rfl
 ·rw [List.append_assoc,zby h rfl]
  show (lex ([32] ++ (58 :: s))).map _=_
  rw [zbW _ (by decide),zcq _ (by decide),Option.map_map];rfl
 ·rw [List.append_assoc,zby h rfl]
  show (lex (58 :: ([32] ++ s))).map _=_
  rw [zcq _ (by decide),zbW _ (by decide),Option.map_map];rfl
theorem zj9 {a b c:List Nat} (h:10∉a∧10∉b∧10∉c) (v:Int):10∉za1 [a,b,c] (v % 3):=by
 rcases zkC a b c v with e | e | e <;> rw [e]
 ·exact h.1
 ·exact h.2.1
 ·exact h.2.2
theorem zgC {a b c:List Nat} {n:Nat} (h:a.length≤n∧b.length≤n∧c.length≤n) (v:Int):(za1 [a,b,c] (v % 3)).length≤n:=by
 rcases zkC a b c v with e | e | e <;> rw [e]
 ·exact h.1
 ·exact h.2.1
 ·exact h.2.2
theorem zhn {i:Nat} (h:i≤1000):zdF ([97,116,95] ++ zax (i:Int)):=zhZ (by decide) (by decide) (by decide) (by lia)
theorem zmw {rows:List Rw} {N i:Nat} {head:List Nat} {ls:List (List Nat)} (hi:i≤1000) (h:zmv rows N i head ls):10∉head∧head.length≤300:=by
 rcases h with ⟨rfl,_⟩ | ⟨_,⟨v,rfl⟩,_⟩
 ·exact ⟨by decide,Nat.zero_le _⟩
 ·have m:=zhn hi
  constructor
  ·rw [List.mem_append,not_or]
   exact ⟨zdG m.1,zj9 (by decide) v⟩
  ·rw [List.length_append]
   have h1:=m.2.2
   have h2:=zgC (a:=[58]) (b:=[32,58]) (c:=[58,32]) (n:=2) (by decide) v
   lia
theorem zvb {rows:List Rw} {N i:Nat} {head:List Nat} {ls:List (List Nat)} (hi:i≤1000) (h:zmv rows N i head ls) {r:Rw} (hr:rows[i]? = some r) (hf:r.fine) {mark:Option (List Nat)} (hm:mark=none∨∃ t:Nat,mark=some ([97,116,95] ++ zax (t:Int))∧(t:Int)∈zaJ rows rows.length∧za5 rows i=t∧t≤1000) {long:Bool} (hz:r.lowZ long) {v w:Int} :
  LOk rows (N+1) (i+1) (i+1) (ls ++ [head ++ za1 [[32],[32,32],[9]] (v % 3) ++ zaV (za1 [[32],[32,32],[9]] (v % 3)) (zcM r mark long) ++ za1 [[],[32,59,32,82,49,44,32,40,114,101,109,97,114,107],[59]] (w % 3)]):=by
 have hmk:∀ m,mark=some m→zdF m:=by
  intro m e
  rcases hm with rfl | ⟨t,rfl,_,_,ht⟩
  ·exact nomatch e
  ·cases e;exact zhn ht
 obtain ⟨p1,p2,n,t,u,e1,e2⟩:=zie hf hmk long
 have hrow:=znt hf hmk hz
 generalize hws:zcM r mark long=ws at *
 have hm':mark=none∨∃ t:Nat,mark=some ([97,116,95] ++ zax (t:Int))∧(t:Int)∈zaJ rows rows.length∧za5 rows i=t:=by
  rcases hm with h | ⟨t,h1,h2,h3,_⟩
  ·exact .inl h
  ·exact .inr ⟨t,h1,h2,h3⟩
 have hgap:zkv (za1 [[32],[32,32],[9]] (v % 3))=true∧za1 [[32],[32,32],[9]] (v % 3)≠[]∧10∉za1 [[32],[32,32],[9]] (v % 3):=by
  rcases zkC [32] [32,32] [9] v with e | e | e <;> rw [e] <;> decide
 have hgl:=zgC (a:=[32]) (b:=[32,32]) (c:=[9]) (n:=2) (by decide) v
 have hrem:lex (za1 [[],[32,59,32,82,49,44,32,40,114,101,109,97,114,107],[59]] (w % 3))=some []∧brk (za1 [[],[32,59,32,82,49,44,32,40,114,101,109,97,114,107],[59]] (w % 3))=true:=by
  rcases zkC [] [32,59,32,82,49,44,32,40,114,101,109,97,114,107] [59] w with e | e | e <;> rw [e]
  ·exact ⟨zdW,rfl⟩
  ·refine ⟨?_,rfl⟩
   show lex ([32] ++ (59 :: [32,82,49,44,32,40,114,101,109,97,114,107]))=_
   rw [zbW _ (by decide)];exact zm2 _
  ·exact ⟨zm2 _,rfl⟩
 have hrl:=zgC (a:=[]) (b:=[32,59,32,82,49,44,32,40,114,101,109,97,114,107]) (c:=[59]) (n:=14) (by decide) w
 have hr10:=zj9 (a:=[]) (b:=[32,59,32,82,49,44,32,40,114,101,109,97,114,107]) (c:=[59]) (by decide) w
 generalize za1 [[32],[32,32],[9]] (v % 3)=g at *
 generalize za1 [[],[32,59,32,82,49,44,32,40,114,101,109,97,114,107],[59]] (w % 3)=e at *
 have hbody:lex (g ++ (zaV g ws ++ e))=some ws:=by
  rw [zbW _ hgap.1,zmo hgap.1 hgap.2.1 ws (fun w hw=>(p1 w hw).1) hrem.2,hrem.1]
  simp
 have hhf:=zmw hi h
 have h10:10∉head ++ g ++ zaV g ws ++ e:=by
  simp only [List.mem_append,not_or]
  refine ⟨⟨⟨hhf.1,hgap.2.2⟩,fun hm=>?_⟩,hr10⟩
  rcases zj2 hm with hm | ⟨w,hw,hm⟩
  ·exact hgap.2.2 hm
  ·exact zrX (p1 w hw).1 hm
 have hlen:(head ++ g ++ zaV g ws ++ e).length≤5000:=by
  have h1:=zmq (ls:=ws) (c:=200) fun w hw=>(p1 w hw).2
  have h2:ws.length * 200≤8 * 200:=Nat.mul_le_mul_right _ p2
  have h3:(ws.length - 1) * g.length≤7 * 2:=Nat.mul_le_mul (by lia) hgl
  have h4:=hhf.2
  simp only [List.length_append,zfG]
  lia
 rcases h with ⟨rfl,hL⟩ | ⟨hk,⟨c,rfl⟩,hL⟩
 ·refine hL.add (zqS hL.run hr hm' ?_ hrow e1 e2) h10 hlen
  rw [List.nil_append,List.append_assoc];exact hbody
 ·have m:=zhn hi
  refine hL.add (zr0 hL.run hk m.2.1 hr hm' ?_ hrow (by rw [e1];simp)) h10 hlen
  rw [List.append_assoc,List.append_assoc,znA m.1,hbody];rfl
theorem zr5 (v:Int):lex (za1 [[],[32,59,32,120],[9]] (v % 3))=some []∧10∉za1 [[],[32,59,32,120],[9]] (v % 3)∧(za1 [[],[32,59,32,120],[9]] (v % 3)).length≤5000:=by
 rcases zkC [] [32,59,32,120] [9] v with e | e | e <;> rw [e]
 ·exact ⟨zdW,by decide,by decide⟩
 ·refine ⟨?_,by decide,by decide⟩
  show lex ([32] ++ (59 :: [32,120]))=_
  rw [zbW _ (by decide)];exact zm2 _
 ·refine ⟨?_,by decide,by decide⟩
  exact (zbW (g:=[9]) [] (by decide)).trans zdW
noncomputable abbrev zvx (n:Int):EF:=zai zba (zaw zaB 1 [(zae 1)]) (zac (.int n))
theorem zhJ {σ:Loc} {b T:Mem} {l:List Int} {n:Int} (h1:σ[1]? = some (some (.ref (b.length+0)))) (hl:za8 l) (hn:0 < n):zvx n σ (b ++ (zaL l :: T)) = .ok (.d (.int (nx l % n))) (b ++ (zaL (rest l) :: T)):=
 zah (zas (zaf (zad h1) zag) rfl (zmt hl)) zab zaa zaa (zb2 hn)
theorem zkD {σ:Loc} {b T:Mem} {l:List Int} {x y z:List Nat} (h1:σ[1]? = some (some (.ref (b.length+0)))) (hl:za8 l):zai zap (zbF [(zac (.str x)),(zac (.str y)),(zac (.str z))]) (zvx 3) σ (b ++ (zaL l :: T)) = .ok (.d (.str (za1 [x,y,z] (nx l % 3)))) (b ++ (zaL (rest l) :: T)):=
 zah (zbA (zaf zab (zaf zab (zaf zab zag))) rfl) (zhJ h1 hl (by decide)) zaa zaa zwu
noncomputable abbrev zpM:CF:=(kIf (tst (zai (opC .Eq) (zai zba (zaw zaB 1 [(zae 1)]) (zac (.int 5))) (zac (.int 4)))) (zaY (zbH (zae 9) (zai zap (zbF [(zac (.str [])),(zac (.str [32,59,32,120])),(zac (.str [9]))]) (zai zba (zaw zaB 1 [(zae 1)]) (zac (.int 3)))))) zaz)
theorem zvy {K:RX Fw→RE} {r:RE} {b:Mem} {l:List Int} {rows:List Rw} {G:MO} {ls:List (List Nat)} {N i i':Nat} {σ:Loc} (h1:σ[1]? = some (some (.ref (b.length+0)))) (h9:σ[9]? = some (some (.ref (b.length+3)))) (hl:za8 l) (hL:LOk rows N i i' ls) (hN:N≤1000)
  (h:∀ (l:List Int) (ls:List (List Nat)),za8 l→LOk rows (N+1) i i' ls→K (.ok (.next σ) (b ++ [zaL l,.list (rows.map Rw.d),G,.list (ls.map .str)]))=r):K (zpM σ (b ++ [zaL l,.list (rows.map Rw.d),G,.list (ls.map .str)]))=r:=by
 refine zaM (zaD (t:=decide (nx l % 5=4)) (zak (zah (zhJ h1 hl (by decide)) zab zaa zaa zdN)) (fun t=>?_) (fun t=>zav (zbD (h _ _ (zao hl) (hL.up (Nat.le_succ _))))))
 obtain ⟨q1,q2,q3⟩:=zr5 (nx (rest l))
 have hlen:=hL.len
 refine zbY (zbU (b:=b) (L:=[zaL (rest (rest l)),.list (rows.map Rw.d),G,.list (ls.map .str)]) (j:=3) (zad h9) (zaN rfl) (zkD h1 (zao hl)) rfl (by rw [List.length_map];lia)) (zbD ?_)
 have:=h _ _ (zao (zao hl)) (hL.add (zts hL.run q1) q2 q3)
 rw [List.map_append] at this
 exact this
theorem ztC {rows:List Rw} {i:Nat} {r:Rw} (hr:rows[i]? = some r) (hl:rows.length≤9) (hk:zce r i∈zaJ rows rows.length):∃ t:Nat,zce r i=t∧za5 rows i=t∧t≤1000:=by
 obtain ⟨j,h1,h2,h3⟩:=(zgA rows _ _).mp hk
 have h4:=zhG rows j
 obtain ⟨t,ht⟩:=Int.eq_ofNat_of_zero_le h3
 refine ⟨t,ht,?_,by lia⟩
 rw [zpL hr,decide_eq_true h3,decide_eq_true (show zce r i≤rows.length by lia)]
 exact ht
noncomputable abbrev zpN:CF:=(zaj (zam (zat 8) zr4) (zaj (zam (zat 11) (zbE (zbt [(tst (zai (opC .In) (zae 8) (zae 6))),(tst (zai (opC .Gt) (zai zba (zaw zaB 1 [(zae 1)]) (zac (.int 3))) (zac (.int 0))))]) (zai zap (zae 6) (zae 8)) (zac .none))) (zaj (zam (zat 12) (zai zap (zbF [(zac (.str [32])),(zac (.str [32,32])),(zac (.str [9]))]) (zai zba (zaw zaB 1 [(zae 1)]) (zac (.int 3))))) (zaj (zam (zat 13) (zaw zct 3 [(zae 1),(zai zap (zae 2) (zae 7)),(zae 11)])) (zaY (zbH (zae 9) (zai zaH (zai zaH (zai zaH (zae 10) (zae 12)) (zb9 "str" zc2 (zae 12) [(zae 13)])) (zai zap (zbF [(zac (.str [])),(zac (.str [32,59,32,82,49,44,32,40,114,101,109,97,114,107])),(zac (.str [59]))]) (zai zba (zaw zaB 1 [(zae 1)]) (zac (.int 3)))))))))))
set_option maxHeartbeats 4000000 in
theorem zzv {K:RX Fw→RE} {r:RE} {R:CF} {b:Mem} {l:List Int} {rows:List Rw} (hf:∀ r∈rows,r.fine) (h9:rows.length≤9) {ls:List (List Nat)} {N i:Nat} {head:List Nat} {s0 s3 s4 s5 s8 s11 s12 s13:Option V} {q:Loc} (hl:za8 l) (hi:i < rows.length) (hH:zmv rows N i head ls) (hN:N≤1000)
  (h:∀ (l:List Int) (ls:List (List Nat)) (s8 s10 s11 s12 s13:Option V),za8 l→LOk rows (N+1) (i+1) (i+1) ls→K (R (s0 :: some (.ref (b.length+0)) :: some (.ref (b.length+1)) :: s3 :: s4 :: s5 :: some (.ref (b.length+2)) :: some (.d (.int (i:Nat))) :: s8 :: some (.ref (b.length+3)) :: s10 :: s11 :: s12 :: s13 :: q) (b ++ [zaL l,.list (rows.map Rw.d),.dcI (zbi [97,116,95] (zaJ rows rows.length)),.list (ls.map .str)]))=r) :
  K (zaj zpN R (s0 :: some (.ref (b.length+0)) :: some (.ref (b.length+1)) :: s3 :: s4 :: s5 :: some (.ref (b.length+2)) :: some (.d (.int (i:Nat))) :: s8 :: some (.ref (b.length+3)) :: some (.d (.str head)) :: s11 :: s12 :: s13 :: q) (b ++ [zaL l,.list (rows.map Rw.d),.dcI (zbi [97,116,95] (zaJ rows rows.length)),.list (ls.map .str)]))=r:=by
 have hr:rows[i]? = some rows[i]:=List.getElem?_eq_getElem hi
 have hfr:=hf _ (List.getElem_mem hi)
 generalize rows[i]=rw0 at *
 have hls:ls.length≤N:=by rcases hH with ⟨_,h⟩ | ⟨_,_,h⟩ <;> exact h.len
 have hhf:=zmw (by lia) hH
 refine zbb (zau (zqZ (k:=b.length+1) (j:=i) (rows:=rows) (r:=rw0) rfl rfl (zaN rfl) (by lia) hr) ?_)
 have step:∀ (l1:List Int) (mark:Option (List Nat)),za8 l1→(mark=none∨∃ t:Nat,mark=some ([97,116,95] ++ zax (t:Int))∧(t:Int)∈zaJ rows rows.length∧za5 rows i=t∧t≤1000)→
   K (zaj (zaj (zam (zat 12) (zai zap (zbF [(zac (.str [32])),(zac (.str [32,32])),(zac (.str [9]))]) (zai zba (zaw zaB 1 [(zae 1)]) (zac (.int 3))))) (zaj (zam (zat 13) (zaw zct 3 [(zae 1),(zai zap (zae 2) (zae 7)),(zae 11)])) (zaY (zbH (zae 9) (zai zaH (zai zaH (zai zaH (zae 10) (zae 12)) (zb9 "str" zc2 (zae 12) [(zae 13)])) (zai zap (zbF [(zac (.str [])),(zac (.str [32,59,32,82,49,44,32,40,114,101,109,97,114,107])),(zac (.str [59]))]) (zai zba (zaw zaB 1 [(zae 1)]) (zac (.int 3))))))))) R
    (s0 :: some (.ref (b.length+0)) :: some (.ref (b.length+1)) :: s3 :: s4 :: s5 :: some (.ref (b.length+2)) :: some (.d (.int (i:Nat))) :: some (.d (.int (zce rw0 i))) :: some (.ref (b.length+3)) :: some (.d (.str head)) :: some (.d (zgL mark)) :: s12 :: s13 :: q) (b ++ [zaL l1,.list (rows.map Rw.d),.dcI (zbi [97,116,95] (zaJ rows rows.length)),.list (ls.map .str)]))=r:=by
  intro l1 mark hl1 hm
  refine zbb (zau (zkD rfl hl1) ?_)
  have hl2:=zao hl1
  obtain ⟨l3,long,q1,q2,q3⟩:=zwF (b:=b) (T:=[.list (rows.map Rw.d),.dcI (zbi [97,116,95] (zaJ rows rows.length)),.list (ls.map .str)]) hfr (mark:=mark) hl2
  refine zbb (zau (zas (zaf (zad rfl) (zaf (zmu (k:=b.length+1) (j:=i) (rows:=rows) (r:=rw0) rfl rfl (zaN rfl) (by lia) hr) (zaf (zad rfl) zag))) rfl q3) ?_)
  have hmk:∀ m,mark=some m→zdF m:=by
   intro m e
   rcases hm with rfl | ⟨t,rfl,_,_,ht⟩
   ·exact nomatch e
   ·cases e;exact zhn ht
  obtain ⟨p1,p2,_⟩:=zie hfr hmk long
  have hla:=zvb (by lia) hH hr hfr hm q2 (v:=nx l1) (w:=nx l3)
  have hgl:=zgC (a:=[32]) (b:=[32,32]) (c:=[9]) (n:=2) (by decide) (nx l1)
  have hrl:=zgC (a:=[]) (b:=[32,59,32,82,49,44,32,40,114,101,109,97,114,107]) (c:=[59]) (n:=14) (by decide) (nx l3)
  generalize hwz:zcM rw0 mark long=ws at *
  have hsum:=zmq (ls:=ws) (c:=200) fun w hw=>(p1 w hw).2
  have hw2:ws.length * 200≤8 * 200:=Nat.mul_le_mul_right _ p2
  have hjl:(zaV (za1 [[32],[32,32],[9]] (nx l1 % 3)) ws).length≤2000:=by
   rw [zfG]
   have h3:(ws.length - 1) * (za1 [[32],[32,32],[9]] (nx l1 % 3)).length≤7 * 2:=Nat.mul_le_mul (by lia) hgl
   lia
  refine zbY (zbU (b:=b) (L:=[zaL (rest l3),.list (rows.map Rw.d),.dcI (zbi [97,116,95] (zaJ rows rows.length)),.list (ls.map .str)]) (j:=3) (x:=.str (head ++ za1 [[32],[32,32],[9]] (nx l1 % 3) ++ zaV (za1 [[32],[32,32],[9]] (nx l1 % 3)) ws ++ za1 [[],[32,59,32,82,49,44,32,40,114,101,109,97,114,107],[59]] (nx l3 % 3))) (zad rfl) (zaN rfl) ?_ rfl (by rw [List.length_map];lia)) ?_
  ·refine zah (zah (zah (zad rfl) (zad rfl) zaa zaa (zbg (c:=300) (d:=2) hhf.2 hgl (by decide))) (zco (zad rfl) rfl (zaf (zad rfl) zag) (zan zaa (zan zaa zaA)) (zcX (b:=1600) (n:=8) zaX (by lia) p2 (by lia))) zaa zaa (zbg (c:=302) (d:=2000) (by rw [List.length_append];have:=hhf.2;lia) hjl (by decide))) (zkD rfl q1) zaa zaa (zbg (c:=2302) (d:=14) (by rw [List.length_append,List.length_append];have:=hhf.2;lia) hrl (by decide))
  ·have:=h _ _ (some (.d (.int (zce rw0 i)))) (some (.d (.str head))) (some (.d (zgL mark))) (some (.d (.str (za1 [[32],[32,32],[9]] (nx l1 % 3))))) (some (.d (.lst (ws.map .str)))) (zao q1) hla
   rw [List.map_append] at this
   exact this
 refine zbb ?_
 have hin:tst (zai (opC .In) (zae 8) (zae 6)) (s0 :: some (.ref (b.length+0)) :: some (.ref (b.length+1)) :: s3 :: s4 :: s5 :: some (.ref (b.length+2)) :: some (.d (.int (i:Nat))) :: some (.d (.int (zce rw0 i))) :: some (.ref (b.length+3)) :: some (.d (.str head)) :: s11 :: s12 :: s13 :: q) (b ++ [zaL l,.list (rows.map Rw.d),.dcI (zbi [97,116,95] (zaJ rows rows.length)),.list (ls.map .str)]) = .ok (decide (zce rw0 i∈zaJ rows rows.length)) (b ++ [zaL l,.list (rows.map Rw.d),.dcI (zbi [97,116,95] (zaJ rows rows.length)),.list (ls.map .str)]):=by
  refine zak (zah (zad rfl) (zad rfl) zaa (zhk (zaN rfl)) ?_)
  rw [zmg,zi1]
 cases hg:decide (zce rw0 i∈zaJ rows rows.length) with
 | false=>
  refine zau (v:=.d (zgL none)) (zjP (t:=false) (zs1 hin hg) rfl zab) ?_
  exact step l none hl (.inl rfl)
 | true=>
  have hk:=of_decide_eq_true hg
  obtain ⟨t,e1,e2,e3⟩:=ztC hr h9 hk
  have hu:=zak (t:=decide (0 < nx l % 3)) (zah (zhJ (b:=b) (T:=[.list (rows.map Rw.d),.dcI (zbi [97,116,95] (zaJ rows rows.length)),.list (ls.map .str)]) (σ:=s0 :: some (.ref (b.length+0)) :: some (.ref (b.length+1)) :: s3 :: s4 :: s5 :: some (.ref (b.length+2)) :: some (.d (.int (i:Nat))) :: some (.d (.int (zce rw0 i))) :: some (.ref (b.length+3)) :: some (.d (.str head)) :: s11 :: s12 :: s13 :: q) rfl hl (n:=3) (by decide)) zab zaa zaa zhd)
  cases hd:decide (0 < nx l % 3) with
  | false=>
   refine zau (v:=.d (zgL none)) (zjP (t:=decide (0 < nx l % 3)) (zo3 hin hg (zc4 hu)) hd zab) ?_
   exact step (rest l) none (zao hl) (.inl rfl)
  | true=>
   refine zau (v:=.d (zgL (some ([97,116,95] ++ zax (t:Int))))) (zjO (t:=decide (0 < nx l % 3)) (zo3 hin hg (zc4 hu)) hd (zah (zad rfl) (zad rfl) (zhk (zaN rfl)) zaa (ziE ?_))) ?_
   ·rw [zga hk,e1];rfl
   ·exact step (rest l) _ (zao hl) (.inr ⟨t,rfl,e1▸hk,e2,e3⟩)
noncomputable abbrev L3 (b:Mem) (rows:List Rw) (l:List Int) (ls:List (List Nat)):Mem:=b ++ [zaL l,.list (rows.map Rw.d),.dcI (zbi [97,116,95] (zaJ rows rows.length)),.list (ls.map .str)]
noncomputable abbrev σ3 (b:Mem) (rows:List Rw) (s0 s3 s4 s7 s8 s10 s11 s12 s13:Option V) (q:Loc):Loc:=s0 :: some (.ref (b.length+0)) :: some (.ref (b.length+1)) :: s3 :: s4 :: some (.d (.int (rows.length:Nat))) :: some (.ref (b.length+2)) :: s7 :: s8 :: some (.ref (b.length+3)) :: s10 :: s11 :: s12 :: s13 :: q
theorem zvc {i:Nat} (h:i≤1000) (v:Int):lex (([97,116,95] ++ zax (i:Int)) ++ za1 [[58],[32,58],[58,32]] (v % 3))=some [[97,116,95] ++ zax (i:Int),[58]]:=by
 have:=znA (s:=[]) (zhn h).1 v
 rw [List.append_nil,zdW] at this
 exact this
set_option maxHeartbeats 4000000 in
theorem zvz {K:RX Fw→RE} {r:RE} {b:Mem} {l:List Int} {rows:List Rw} (hf:∀ r∈rows,r.fine) (h9:rows.length≤9) {ls:List (List Nat)} {i:Nat} {s0 s3 s4 s8 s10 s11 s12 s13:Option V} {q:Loc} (hl:za8 l) (hi:i≤rows.length) (hL:LOk rows (3 * i) i i ls)
  (h:∀ (l:List Int) (ls:List (List Nat)) (s8 s10 s11 s12 s13:Option V),za8 l→(i < rows.length→LOk rows (3 * (i+1)) (i+1) (i+1) ls)→(i=rows.length→LOk rows (3 * (i+1)) i (i+1) ls)→K (.ok (.next (σ3 b rows s0 s3 s4 (some (.d (.int (i:Nat)))) s8 s10 s11 s12 s13 q)) (L3 b rows l ls))=r) :
  K (zmb (σ3 b rows s0 s3 s4 (some (.d (.int (i:Nat)))) s8 s10 s11 s12 s13 q) (L3 b rows l ls))=r:=by
 unfold zmb
 refine zau zab ?_
 have rest':∀ (l:List Int) (ls:List (List Nat)) (head:List Nat),za8 l→zmv rows (3 * i+1) i head ls→(i=rows.length→head=[])→K (zaj (kIf (tst (zai (opC .Lt) (zae 7) (zae 5))) zpN zaz) zpM (σ3 b rows s0 s3 s4 (some (.d (.int (i:Nat)))) s8 (some (.d (.str head))) s11 s12 s13 q) (L3 b rows l ls))=r:=by
  intro l ls head hl hH hz
  refine zaD (t:=decide ((i:Int) < (rows.length:Nat))) (zak (zah (zad rfl) (zad rfl) zaa zaa zft)) (fun t=>?_) (fun t=>?_)
  ·have hlt:i < rows.length:=by have:=of_decide_eq_true t;lia
   refine zzv hf h9 hl hlt hH (by lia) fun l ls s8 s10 s11 s12 s13 g1 g2=>?_
   refine zvy rfl rfl g1 g2 (by lia) fun l ls g3 g4=>?_
   exact h l ls s8 s10 s11 s12 s13 g3 (fun x_=>g4.up (by lia)) (fun e=>by lia)
  ·have he:i=rows.length:=by have:=of_decide_eq_false t;lia
   refine zav ?_
   have hh:=hz he
   subst hh
   have hL:LOk rows (3 * i+1) i (i+1) ls:=by
    rcases hH with ⟨_,h⟩ | ⟨_,⟨v,e⟩,_⟩
    ·exact h
    ·simp at e
   refine zvy rfl rfl hl hL (by lia) fun l ls g3 g4=>?_
   exact h l ls _ _ _ _ _ g3 (fun e=>by lia) (fun x_=>g4.up (by lia))
 have hin:tst (zai (opC .In) (zae 7) (zae 6)) (σ3 b rows s0 s3 s4 (some (.d (.int (i:Nat)))) s8 (some (.d (.str []))) s11 s12 s13 q) (L3 b rows l ls) = .ok (decide ((i:Int)∈zaJ rows rows.length)) (L3 b rows l ls):=by
  refine zak (zah (zad rfl) (zad rfl) zaa (zhk (zaN rfl)) ?_)
  rw [zmg,zi1]
 refine zaD hin (fun t=>?_) (fun t=>zav (rest' l ls [] hl (.inl ⟨rfl,(LOk.mk (zlC hL.run (of_decide_eq_false t)) hL.ok hL.len).up (by lia)⟩) (fun x_=>rfl)))
 have hk:=of_decide_eq_true t
 have m:=zhn (i:=i) (by lia)
 have hpl:=zgC (a:=[58]) (b:=[32,58]) (c:=[58,32]) (n:=2) (by decide) (nx l)
 refine zbb (zau (zah (zah (zad rfl) (zad rfl) (zhk (zaN rfl)) zaa (ziE (zga hk))) (zkD rfl hl) zaa zaa (zbg (c:=200) (d:=2) m.2.2 hpl (by decide))) ?_)
 have hl1:=zao hl
 have hlen:=hL.len
 have hhead:10∉([97,116,95] ++ zax (i:Int)) ++ za1 [[58],[32,58],[58,32]] (nx l % 3)∧(([97,116,95] ++ zax (i:Int)) ++ za1 [[58],[32,58],[58,32]] (nx l % 3)).length≤5000:=by
  constructor
  ·rw [List.mem_append,not_or];exact ⟨zdG m.1,zj9 (by decide) _⟩
  ·rw [List.length_append];have:=m.2.2;lia
 have pushed:∀ (l':List Int),za8 l'→K (zaj (zaj (zaY (zbH (zae 9) (zae 10))) (zam (zat 10) (zac (.str [])))) (zaj (kIf (tst (zai (opC .Lt) (zae 7) (zae 5))) zpN zaz) zpM) (σ3 b rows s0 s3 s4 (some (.d (.int (i:Nat)))) s8 (some (.d (.str (([97,116,95] ++ zax (i:Int)) ++ za1 [[58],[32,58],[58,32]] (nx l % 3))))) s11 s12 s13 q) (L3 b rows l' ls))=r:=by
  intro l' hl'
  refine zbb (zbY (zbU (b:=b) (L:=[zaL l',.list (rows.map Rw.d),.dcI (zbi [97,116,95] (zaJ rows rows.length)),.list (ls.map .str)]) (j:=3) (zad rfl) (zaN rfl) (zad rfl) rfl (by rw [List.length_map];lia)) (zau zab ?_))
  have:=rest' l' (ls ++ [([97,116,95] ++ zax (i:Int)) ++ za1 [[58],[32,58],[58,32]] (nx l % 3)]) [] hl' (.inl ⟨rfl,(hL.add (zm3 hL.run hk m.2.1 (zvc (by lia) _)) hhead.1 hhead.2)⟩) (fun x_=>rfl)
  unfold L3 at this
  rw [List.map_append] at this
  exact this
 have h1:=zak (t:=decide (nx (rest l) % 2=1)) (zah (zhJ (b:=b) (T:=[.list (rows.map Rw.d),.dcI (zbi [97,116,95] (zaJ rows rows.length)),.list (ls.map .str)]) (σ:=σ3 b rows s0 s3 s4 (some (.d (.int (i:Nat)))) s8 (some (.d (.str (([97,116,95] ++ zax (i:Int)) ++ za1 [[58],[32,58],[58,32]] (nx l % 3))))) s11 s12 s13 q) rfl hl1 (n:=2) (by decide)) zab zaa zaa zdN)
 cases q1:decide (nx (rest l) % 2=1) with
 | true=>exact zaD (t:=true) (zvo h1 q1) (fun x_=>pushed _ (zao hl1)) (fun t=>Bool.noConfusion t)
 | false=>
  refine zaD (t:=decide ((i:Int)=(rows.length:Nat))) (zn5 h1 q1 (zbI (zak (zah (zad rfl) (zad rfl) zaa zaa zdN)))) (fun x_=>pushed _ (zao hl1)) (fun t=>zav ?_)
  refine rest' _ ls _ (zao hl1) (.inr ⟨hk,⟨_,rfl⟩,hL.up (by lia)⟩) (fun e=>?_)
  exact absurd (by rw [e]) (of_decide_eq_false t)
theorem zyx {K:RX Fw→RE} {r:RE} {b:Mem} {rows:List Rw} (hf:∀ r∈rows,r.fine) (h9:rows.length≤9) {s0 s3 s4:Option V} {q:Loc}
  (h:∀ (l:List Int) (ls:List (List Nat)) (s7 s8 s10 s11 s12 s13:Option V),za8 l→LOk rows 300 rows.length (rows.length+1) ls→K (.ok (.next (σ3 b rows s0 s3 s4 s7 s8 s10 s11 s12 s13 q)) (L3 b rows l ls))=r) :
  ∀ (m j:Nat) (l:List Int) (ls:List (List Nat)) (s7 s8 s10 s11 s12 s13:Option V),j+m=rows.length→za8 l→LOk rows (3 * j) j j ls→K (zcK (zat 7) zmb ((List.range' j (m+1)).map fun i=>.int (i:Nat)) (σ3 b rows s0 s3 s4 s7 s8 s10 s11 s12 s13 q) (L3 b rows l ls))=r
 | 0,j,l,ls,s7,s8,s10,s11,s12,s13,e,hl,hL=>by
  refine zez ?_
  refine zvz hf h9 hl (by lia) hL fun l ls s8 s10 s11 s12 s13 g1 x_ g3=>zdp (zdU ?_)
  have e':j=rows.length:=by lia
  subst e'
  exact h l ls _ _ _ _ _ _ g1 ((g3 rfl).up (by lia))
 | m+1,j,l,ls,s7,s8,s10,s11,s12,s13,e,hl,hL=>by
  refine zez ?_
  refine zvz hf h9 hl (by lia) hL fun l ls s8 s10 s11 s12 s13 g1 g2 x_=>zdp ?_
  exact zyx hf h9 h m (j+1) l ls _ _ _ _ _ _ (by lia) g1 (g2 (by lia))
noncomputable def dOk (k:Nat) (d:D):Prop:=d.py.canLay0=true∧d.py.depth≤k
theorem zpO {k:Nat}:∀ {ds:List D},(∀ d∈ds,dOk k d)→PyData.canLayAll0 (pys ds)=true∧PyData.depthAll (pys ds)≤k
 | [],_=>by simp [pys,PyData.canLayAll0,PyData.depthAll]
 | d :: ds,h=>by
  obtain ⟨h1,h2⟩:=h d (List.mem_cons_self ..)
  obtain ⟨h3,h4⟩:=zpO (k:=k) (ds:=ds) fun x hx=>h x (List.mem_cons_of_mem _ hx)
  simp only [pys,PyData.canLayAll0,PyData.depthAll,h1,h3,Bool.and_self,true_and]
  lia
theorem zfL (i:Int) (k:Nat):dOk k (.int i):=⟨by simp [D.py,PyData.canLay0],by simp [D.py,PyData.depth]⟩
theorem ziG {x:List Nat} (h:(Mine.Internal.str x).cps.all (· < 0x110000)=true) (k:Nat):dOk k (.str x):=⟨by simp only [D.py,PyData.canLay0,PyData.strOk];exact h,by simp [D.py,PyData.depth]⟩
theorem zm5 {k:Nat} {ds:List D} (h:∀ d∈ds,dOk k d):dOk (k+1) (.tup ds):=by
 obtain ⟨h1,h2⟩:=zpO h
 refine ⟨by simp only [D.py,PyData.canLay0];exact h1,by simp only [D.py,PyData.depth];lia⟩
theorem zq0 {k:Nat} {ds:List D} (h:∀ d∈ds,dOk k d):dOk (k+1) (.lst ds):=by
 obtain ⟨h1,h2⟩:=zpO h
 refine ⟨by simp only [D.py,PyData.canLay0];exact h1,by simp only [D.py,PyData.depth];lia⟩
theorem znB {k:Nat} {d:D} (h:dOk k d) (hk:k≤64):SeqAt.shaped d.py=true:=by
 unfold SeqAt.shaped;rw [h.1,decide_eq_true (Nat.le_trans h.2 hk)];rfl
theorem zpP {k:Nat} {ds:List D} (h:∀ d∈ds,dOk k d) (hk:k≤60):opC .NotEq (.lst ds) (.lst ds)=some (.bool false):=by
 have h1:=zq0 h
 have hs:=znB h1 (by lia)
 have:ziH (.lst ds) (.lst ds)=some true:=(if_pos ⟨hs,hs⟩).trans (congrArg some (SeqAt.eqv_refl _ h1.1))
 show ((ziH _ _).map _).map _=_;rw [this];rfl
theorem zyy {k:Nat} {ds:List D} (h:∀ d∈ds,dOk k d) (hk:k≤60):opC .Eq (.tup ds) (.tup ds)=some (.bool true):=by
 have h1:=zm5 h
 have hs:=znB h1 (by lia)
 have:ziH (.tup ds) (.tup ds)=some true:=(if_pos ⟨hs,hs⟩).trans (congrArg some (SeqAt.eqv_refl _ h1.1))
 show (ziH (.tup ds) (.tup ds)).map D.bool=_;rw [this];rfl
noncomputable def asc (x:List Nat):Bool:=x.all fun c=>decide (c < 128)
theorem zka {x:List Nat} (h:asc x=true):(Mine.Internal.str x).cps.all (· < 0x110000)=true:=by
 show (x.toArray).all _=true
 rw [List.all_toArray,List.all_eq_true]
 intro c hc
 have:=of_decide_eq_true (List.all_eq_true.mp h c hc)
 exact decide_eq_true (by lia)
theorem zpQ {n:List Nat} (h:n∈zfA):asc n=true∧asc (zbL n)=true:=by
 have key:∀ n∈zfA,(asc n && asc (zbL n))=true:=by decide +kernel
 have:=key n h
 rw [Bool.and_eq_true] at this;exact this
theorem zq1 {n:List Nat} (h:n∈BRS):asc n=true∧asc (zbL n)=true:=by
 have key:∀ n∈BRS,(asc n && asc (zbL n))=true:=by decide +kernel
 have:=key n h
 rw [Bool.and_eq_true] at this;exact this
theorem ztD {n:List Nat} (h:n∈zcD):asc n=true:=by revert n;decide +kernel
theorem zwH {r:Rw} (h:r.fine):dOk 1 r.d:=by
 cases r with
 | reg n a b c=>
  refine zm5 (k:=0) fun d hd=>?_
  simp only [List.mem_cons,List.not_mem_nil,or_false] at hd
  rcases hd with rfl | rfl | rfl | rfl
  ·exact ziG (zka (zpQ h.1).1) _
  ·exact zfL _ _
  ·exact zfL _ _
  ·exact zfL _ _
 | br n cond b c=>
  refine zm5 (k:=0) fun d hd=>?_
  simp only [List.mem_cons,List.not_mem_nil,or_false] at hd
  rcases hd with rfl | rfl | rfl | rfl
  ·exact ziG (zka (zq1 h.1.1).1) _
  ·exact ziG (zka (ztD h.1.2)) _
  ·exact zfL _ _
  ·exact zfL _ _
theorem zq2 {rows:List Rw} (hf:∀ r∈rows,r.fine):opC .NotEq (.lst (rows.map Rw.d)) (.lst (rows.map Rw.d))=some (.bool false):=by
 refine zpP (k:=1) (fun d hd=>?_) (by decide)
 obtain ⟨r,hr,rfl⟩:=List.mem_map.mp hd
 exact zwH (hf r hr)
theorem zvd {rows:List Rw} {ls:List (List Nat)} (hf:∀ r∈rows,r.fine) (hL:LOk rows 300 rows.length (rows.length+1) ls) (μ:Mem):zb0 [.d (.str (zaV [10] ls))] μ = .ok (.d (.lst (rows.map Rw.d))) μ:=by
 obtain ⟨h1,h2,h3⟩:=zmr (fun l h=>(hL.ok l h).1) (fun l h=>(hL.ok l h).2) hL.len
 rw [zi0 h1 h2 h3,znw hf (fun t ht=>?_) hL.run (fun l h=>(hL.ok l h).1)]
 ·rfl
 ·obtain ⟨i,_,rfl,_⟩:=(zgA rows _ _).mp ht
  exact (zhG rows i).2
theorem zwI {rows:List Rw} (h9:rows.length≤9) (hf:∀ r∈rows,r.fine) (μ:Mem):zb0 [.d (.str (zaV [10] (zeu rows)))] μ = .ok (.d (.lst (rows.map Rw.d))) μ:=by
 have hd:=znx (rows:=rows) (by lia) hf
 obtain ⟨h1,h2,h3⟩:=zmr (fun l h=>(hd l h).1) (fun l h=>(hd l h).2) (zu1 (by lia) hf)
 rw [zi0 h1 h2 h3,zu2 (by lia) hf];rfl
theorem zzX {K:RX Fw→RE} {r:RE} {R:CF} {b:Mem} {l:List Int} {rows:List Rw} (hf:∀ r∈rows,r.fine) (h9:rows.length≤9) {ls:List (List Nat)} {s0 s3 s4 s7 s8 s10 s11 s12 s13 s14 s15:Option V} {q:Loc} (hl:za8 l) (hL:LOk rows 300 rows.length (rows.length+1) ls)
  (h:∀ (base:Int) (l:List Int),0≤base→base < 1024→za8 l→K (R (σ3 b rows s0 s3 s4 s7 s8 s10 s11 s12 s13 (some (.d (.int base)) :: some (.d (.lst ((zcU rows base rows.length).map .str))) :: q)) (L3 b rows l ls))=r) :
  K (zaj (zaj (kIf (kOr [(tst (zai (opC .NotEq) (zaw zb0 1 [(zb9 "str" zc2 (zac (.str [10])) [(zae 9)])]) (zae 2))),(tst (zai (opC .NotEq) (zaw zb0 1 [(zaw ze4 1 [(zae 2)])]) (zae 2)))]) (zaq (zac (.bool false))) zaz) (zaj (kIf (tst (zai (opC .NotEq) (zaI zdf [(zaw zd5 1 [(zae 2)])]) (zaI zdf [(zae 6)]))) (zaq (zac (.bool false))) zaz) (zaj (zam (zat 14) (zaw zaB 1 [(zae 1)])) (zam (zat 15) (zaw zhh 2 [(zae 2),(zae 14)]))))) R (σ3 b rows s0 s3 s4 s7 s8 s10 s11 s12 s13 (s14 :: s15 :: q)) (L3 b rows l ls))=r:=by
 have hg:(L3 b rows l ls)[b.length+1]? = some (.list (rows.map Rw.d)):=zaN rfl
 have hsum:=zmq (ls:=ls) (c:=5000) fun l h=>(hL.ok l h).2
 have hlen:ls.length * 5000≤300 * 5000:=Nat.mul_le_mul_right _ hL.len
 have hgood:∀ r∈rows,r.good:=fun r h=>zd7 (hf r h)
 have hd:=znT hg (by lia) hgood (fun i h=>zmp (by lia)) (fun i=>zpw (by lia) i)
 have hlb:=zjh hg (by lia) (fun i=>zpw (by lia) i)
 have hkl:=zi2 rows rows.length
 refine zbb (zaD (t:=false) (μ1:=L3 b rows l ls) ?_ (fun t=>Bool.noConfusion t) (fun x_=>zav ?_))
 ·refine zn5 (t:=false) (μ1:=L3 b rows l ls) (zak (zah (zas (zaf (zco zab rfl (zaf (zad rfl) zag) (zan zaa (zan (za0 (zaN rfl)) zaA)) (zcX (b:=300 * 5000) (n:=300) zaX (by lia) hL.len (by decide))) zag) rfl (zvd hf hL _)) (zad rfl) zaa (za0 hg) (zq2 hf))) rfl ?_
  exact zbI (zak (zah (zas (zaf (zas (zaf (zad rfl) zag) rfl hd) zag) rfl (zwI h9 hf _)) (zad rfl) zaa (za0 hg) (zq2 hf)))
 refine zbb (zaD (t:=false) (μ1:=L3 b rows l ls) ?_ (fun t=>Bool.noConfusion t) (fun x_=>zav ?_))
 ·have hso:∀ p,zdf [.dcI (zbi p (zaJ rows rows.length))]=some (.lst ((zlK (zaJ rows rows.length)).map .int)):=by
   intro p
   show (if _ then _ else _)=_
   rw [if_pos (by unfold zbi;rw [List.length_map];lia)]
   unfold zbi;rw [List.map_map]
   show some (D.lst ((zlK ((zaJ rows rows.length).map fun x=>x)).map .int))=_
   rw [List.map_id']
  refine zak (zah (zaF (zaf (zas (zaf (zad rfl) zag) rfl hlb) zag) (zan zaa zaA) (hso _)) (zaF (zaf (zad rfl) zag) (zan (zhk (zaN rfl)) zaA) (hso _)) zaa zaa ?_)
  refine zpP (k:=0) (fun d hd=>?_) (by decide)
  obtain ⟨i,_,rfl⟩:=List.mem_map.mp hd
  exact zfL _ _
 obtain ⟨b0,b1⟩:=zuJ hl
 refine zbb (zau (zas (zaf (zad rfl) zag) rfl (zmt hl)) ?_)
 have hls:=ztz (μ:=L3 b rows (rest l) ls) (k:=b.length+1) (rows:=rows) (base:=nx l) (zaN rfl) (by lia) hf ⟨by lia,by lia⟩
 refine zau (zas (zaf (zad rfl) (zaf (zad rfl) zag)) rfl hls) ?_
 exact h (nx l) (rest l) b0 b1 (zao hl)
theorem zyz (w:Int) {s:Nat} (hs:s < 8):zap (.str HEX) (.int (w / 16 ^ (s:Int).toNat % 16))=some (.str [zfz w (7 - s)]):=by
 have:=zpi (w / 16 ^ (s:Int).toNat % 16) (Int.emod_nonneg _ (by decide)) (Int.emod_lt_of_pos _ (by decide))
 rw [this]
 unfold zfz
 rw [show 7 - (7 - s)=s by lia,Int.toNat_natCast]
theorem zyA {s:Nat} (hs:s < 8):(0≤(s:Int)∧(s:Int) < 1000∧(0:Int)≤16∧(16:Int) < 1000)∧(0:Int) < 16 ^ (s:Int).toNat∧(16:Int) ^ (s:Int).toNat < 1073741824:=by
 revert s;decide
noncomputable def zm6 (w:Int):Nat→List Nat
 | 0=>[]
 | s+1=>zfz w (7 - s) :: zm6 w s
theorem zpR (w:Int):∀ s,(zm6 w s).length=s
 | 0=>rfl
 | s+1=>by rw [zm6,List.length_cons,zpR w s]
theorem zyB (w:Int):zm6 w 8=zf7 w:=by rw [zkA];rfl
noncomputable def zh1 (n:List Nat):Nat:=n.getLast?.getD 0
theorem zve {r:Rw} (h:r.fine):at? r.nm (-1)=some (zh1 r.nm)∧(bif decide ([zh1 r.nm]=[73]) && decide (slc r.nm none (some (-1))∈OPS) then slc r.nm none (some (-1)) else r.nm)=zbL r.nm:=by
 have k1:∀ n∈zfA,(decide (at? n (-1)=some (zh1 n)) && decide ((bif decide ([zh1 n]=[73]) && decide (slc n none (some (-1))∈OPS) then slc n none (some (-1)) else n)=zbL n))=true:=by decide +kernel
 have k2:∀ n∈BRS,(decide (at? n (-1)=some (zh1 n)) && decide ((bif decide ([zh1 n]=[73]) && decide (slc n none (some (-1))∈OPS) then slc n none (some (-1)) else n)=zbL n))=true:=by decide +kernel
 have:(decide (at? r.nm (-1)=some (zh1 r.nm)) && decide ((bif decide ([zh1 r.nm]=[73]) && decide (slc r.nm none (some (-1))∈OPS) then slc r.nm none (some (-1)) else r.nm)=zbL r.nm))=true:=by
  cases r with
  | reg n a b c=>exact k1 n h.1
  | br n cond b c=>exact k2 n h.1.1
 rw [Bool.and_eq_true,decide_eq_true_eq,decide_eq_true_eq] at this
 exact this
theorem zpS {α:Type} (l:List α) (n:Nat) (h:n≤l.length):slc l none (some (n:Int))=l.take n:=by
 unfold slc
 simp only [Option.elim,ziW _ _ h,List.drop_zero,Nat.sub_zero]
theorem ztE {α:Type} (l:List α) (n:Nat) (h:n+9≤l.length):slc l none (some ((n:Int)+9))=l.take (n+9):=zpS l (n+9) h
theorem zvf (r:Rw) (v:Int):slc (zfl r v) none (some (((zax v ++ [32]).length:Nat)+9:Int))=(zax v ++ [32]) ++ zf7 r.enc ++ [32]:=by
 have hx:(zf7 r.enc).length=8:=by rw [zkA];rfl
 have e:zfl r v=((zax v ++ [32]) ++ zf7 r.enc ++ [32]) ++ zcS r []:=rfl
 have hl:(((zax v ++ [32]) ++ zf7 r.enc ++ [32]) ++ zcS r []).length=(zax v ++ [32]).length+9+(zcS r []).length:=by
  simp only [List.length_append,List.length_cons,List.length_nil,hx]
 rw [e,ztE _ _ (by rw [hl];lia)]
 exact List.take_left' (by simp only [List.length_append,List.length_cons,List.length_nil,hx])
noncomputable abbrev L5 (b:Mem) (rows:List Rw) (l:List Int) (ls:List (List Nat)) (cs:List (List Nat×Int)):Mem:=b ++ [zaL l,.list (rows.map Rw.d),.dcI (zbi [97,116,95] (zaJ rows rows.length)),.list (ls.map .str),.dcS (zbf cs)]
noncomputable abbrev σ5 (b:Mem) (rows:List Rw) (base:Int) (s0 s3 s4 s7 s8 s10 s11 s12 s13 s17 s18 s19:Option V) (q:Loc):Loc:=σ3 b rows s0 s3 s4 s7 s8 s10 s11 s12 s13 (some (.d (.int base)) :: some (.d (.lst ((zcU rows base rows.length).map .str))) :: some (.ref (b.length+4)) :: s17 :: s18 :: s19 :: q)
theorem zvA {K:RX Fw→RE} {r:RE} {b:Mem} {rows:List Rw} {base:Int} {l:List Int} {ls:List (List Nat)} {cs:List (List Nat×Int)} {j:Nat} {rw0:Rw} (hr:rows[j]? = some rw0) (hf:rw0.fine) (h9:rows.length≤9) {s0 s3 s4 s8 s10 s11 s12 s13 s19:Option V} {q:Loc}
  (h:∀ s18,K (.ok (.next (σ5 b rows base s0 s3 s4 (some (.d (.int (j:Nat)))) s8 s10 s11 s12 s13 (some (.d (.str (zf7 rw0.enc)))) s18 s19 q)) (L5 b rows l ls cs))=r) :
  ∀ (m s:Nat) (s18:Option V),s+m=8→K (zcK (zat 18) zoU ((List.range' s m).map fun i=>.int (i:Nat)) (σ5 b rows base s0 s3 s4 (some (.d (.int (j:Nat)))) s8 s10 s11 s12 s13 (some (.d (.str (zm6 rw0.enc s)))) s18 s19 q) (L5 b rows l ls cs))=r
 | 0,s,s18,e=>by
  have:s=8:=by lia
  subst this
  rw [zyB]
  exact zdU (h s18)
 | m+1,s,s18,e=>by
  obtain ⟨e1,e2⟩:=zyA (s:=s) (by lia)
  have hfl:=zpR rw0.enc s
  refine zez ?_
  unfold zoU
  refine zaM (zau (v:=.d (.str (zm6 rw0.enc (s+1)))) (μ1:=L5 b rows l ls cs) ?_ (zbD (zdp (zvA hr hf h9 h m (s+1) _ (by lia)))))
  refine zah (zah zab (zah (zah (zas (zaf (zmu (k:=b.length+1) (j:=j) (rows:=rows) (r:=rw0) rfl rfl (zaN rfl) (by lia) hr) zag) rfl (zpG hf _)) (zah zab (zad rfl) zaa zaa (zvp e1)) zaa zaa (zmc e2)) zab zaa zaa (zb2 (by decide))) zaa zaa (zyz _ (by lia))) (zad rfl) zaa zaa (zbg (c:=1) (d:=8) (Nat.le_refl _) (by lia) (by decide))
set_option maxHeartbeats 4000000 in
theorem zyC {K:RX Fw→RE} {r:RE} {b:Mem} {rows:List Rw} (hf:∀ r∈rows,r.fine) (h9:rows.length≤9) {base:Int} (hb:0≤base∧base < 1024) {l:List Int} {ls:List (List Nat)} {s0 s3 s4 s8 s11 s12 s13:Option V} {q:Loc}
  (h:∀ (s7 s10 s17 s18 s19:Option V),K (.ok (.next (σ5 b rows base s0 s3 s4 s7 s8 s10 s11 s12 s13 s17 s18 s19 q)) (L5 b rows l ls (zbp rows rows.length)))=r) :
  ∀ (m j:Nat) (s7 s10 s17 s18 s19:Option V),j+m=rows.length→K (zcK (zat 7) zoV ((List.range' j m).map fun i=>.int (i:Nat)) (σ5 b rows base s0 s3 s4 s7 s8 s10 s11 s12 s13 s17 s18 s19 q) (L5 b rows l ls (zbp rows j)))=r
 | 0,j,s7,s10,s17,s18,s19,e=>by
  have:j=rows.length:=by lia
  subst this
  exact zdU (h s7 s10 s17 s18 s19)
 | m+1,j,s7,s10,s17,s18,s19,e=>by
  have hr:rows[j]? = some rows[j]:=List.getElem?_eq_getElem (by lia)
  have hfr:=hf _ (List.getElem_mem (by lia:j < rows.length))
  have hcs:=zge hr
  generalize rows[j]=rw0 at *
  have hcl:=zh0 rows j
  obtain ⟨n1,n2⟩:=zve hfr
  have hnl:=ztB hfr
  obtain ⟨lt1,lt2⟩:=zj6 (rows:=rows) (base:=base) rows.length (Nat.le_refl _)
  have hitem:=zef ((zcU rows base rows.length).map D.str) (e:=j) (by lia)
  rw [List.getElem?_map,lt2 j rw0 (by lia) hr] at hitem
  have hs:zbT (base+j):=⟨by lia,by lia⟩
  obtain ⟨f1,f2⟩:=zdK hs
  have hxl:(zf7 rw0.enc).length=8:=by rw [zkA];rfl
  have hrt:=zfk (zd7 hfr) (l:=[]) (Nat.zero_le _)
  have hll:(zfl rw0 (base+j)).length≤16777216:=by
   unfold zfl
   simp only [List.length_append,List.length_cons,List.length_nil,hxl];lia
  have hhl:(zax (base+j) ++ [32]).length≤101:=by rw [List.length_append];simp only [List.length_cons,List.length_nil];lia
  refine zez ?_
  unfold zoV
  refine zau (zah (zaF (zaf (zah (zad rfl) (zad rfl) zaa zaa zaZ) zag) (zan zaa zaA) (zca f1)) zab zaa zaa (zbg (c:=100) (d:=1) f2 (Nat.le_refl _) (by decide))) ?_
  refine zau zab ?_
  refine zfh (n:=8) zab (by decide) ?_
  rw [List.range_eq_range']
  refine zvA (rows:=rows) (base:=base) hr hfr h9 (fun s18=>zc8 ?_) 8 0 s18 rfl
  refine zaD (t:=false) (μ1:=L5 b rows l ls (zbp rows j)) ?_ (fun t=>Bool.noConfusion t) (fun x_=>zav ?_)
  ·refine zak (zah (zcz (zah (zad rfl) (zad rfl) zaa zaa hitem) zcy (zcL (zah (zaF (zaf (zad rfl) zag) (zan zaa zaA) (zf0 (by lia))) zab zaa zaa zaZ)) zaa (zem hll)) (zah (zah (zad rfl) (zad rfl) zaa zaa (zbg (c:=101) (d:=8) hhl (by lia) (by decide))) zab zaa zaa (zbg (c:=109) (d:=1) (by rw [List.length_append];lia) (Nat.le_refl _) (by decide))) zaa zaa ?_)
   rw [zvf,zcm,decide_eq_true rfl];rfl
  refine zau (zvw (k:=b.length+1) (j:=j) (rows:=rows) (r:=rw0) rfl rfl (zaN rfl) (by lia) hr) ?_
  have hsl:∀ σ μ,(σ:Loc)[19]? = some (some (.d (.str rw0.nm)))→zb5 (zae 19) none (some (zcW (zac (.int 1)))) σ μ = .ok (.d (.str (slc rw0.nm none (some (-1))))) μ:=fun σ μ e=>zcz (zad e) zcy (zcL (zdz zab)) zaa (zem (by lia))
  refine zau (v:=.d (.str (zbL rw0.nm))) (μ1:=L5 b rows l ls (zbp rows j)) ?_ ?_
  ·rw [← n2]
   refine zix (ze1 (zak (zah (zah (zad rfl) (zdz zab) zaa zaa (zwo (by decide) n1)) zab zaa zaa zaT)) fun x_=>zc4 (zak (zah (hsl _ _ rfl) (zas zag rfl (zep _)) zaa zaa (zc7 zaX)))) (fun x_=>hsl _ _ rfl) (fun x_=>zad rfl)
  refine zaM (zlE (b:=b) (L:=[zaL l,.list (rows.map Rw.d),.dcI (zbi [97,116,95] (zaJ rows rows.length)),.list (ls.map .str),.dcS (zbf (zbp rows j))]) (j:=4) rfl rfl rfl (zfm rows j) (by lia) (zbD (zdp ?_)))
  have:=zyC hf h9 hb h m (j+1) (some (.d (.int (j:Nat)))) (some (.d (.str (zax (base+j) ++ [32])))) (some (.d (.str (zf7 rw0.enc)))) s18 (some (.d (.str (zbL rw0.nm)))) (by lia)
  rw [hcs] at this
  exact this
noncomputable def WR:List (List Nat×List Nat):=[([65,68,68,32,82,49,44,32,82,50],[101,120,112,101,99,116,101,100,32,44]),([65,68,68,32,82,49,44,32,82,50,44,32,82,49,54],[101,120,112,101,99,116,101,100,32,97,32,114,101,103,105,115,116,101,114]),([65,68,68,32,82,49,44,32,82,50,44,32,53],[101,120,112,101,99,116,101,100,32,97,32,114,101,103,105,115,116,101,114]),([65,68,68,73,32,82,49,44,32,82,50,44,32,82,51],[101,120,112,101,99,116,101,100,32,97,32,110,117,109,98,101,114]),([77,79,86,73,32,82,49,44,32,55,48,48,48,48],[98,97,100,32,105,109,109,101,100,105,97,116,101]),([76,68,82,32,82,49,44,32,91,82,50,44,32,49],[101,120,112,101,99,116,101,100,32,93]),([66,32,69,81,44,32,110,111,119,104,101,114,101],[117,110,107,110,111,119,110,32,108,97,98,101,108]),([66,32,88,88,44,32,49],[101,120,112,101,99,116,101,100,32,97,32,99,111,110,100,105,116,105,111,110]),([70,76,89,32,82,49],[117,110,107,110,111,119,110,32,105,110,115,116,114,117,99,116,105,111,110]),([71,69,84,72,32,82,49,44,32,82,50],[116,111,111,32,109,97,110,121,32,111,112,101,114,97,110,100,115]),([77,79,86,32,82,49,32,82,50],[101,120,112,101,99,116,101,100,32,44]),([84,82,65,80,32,65,76,44,32,49,54,44,32,48],[98,97,100,32,116,114,97,112]),([66,76,82,32,65,76,44,32,82,49,50],[98,97,100,32,114,101,103,105,115,116,101,114]),([77,79,86,73,32,82,49,44,32,49,48,48,48,48,48,48,48,48,48,48,48,48,48,48,48],[110,117,109,98,101,114,32,116,111,111,32,108,97,114,103,101]),([77,79,86,32,82,49,44,32,82,50,32,36],[98,97,100,32,99,104,97,114,97,99,116,101,114]),([104,101,114,101,58,32,77,79,86,32,82,49,44,32,82,50] ++ [10] ++ [104,101,114,101,58,32,71,69,84,72,32,82,49],[108,97,98,101,108,32,116,119,105,99,101]),([51,58,32,71,69,84,72,32,82,49],[98,97,100,32,108,97,98,101,108]),([77,79,86,73,32,82,48,49,44,32,49],[101,120,112,101,99,116,101,100,32,97,32,114,101,103,105,115,116,101,114])]
noncomputable def AH:List (List Nat):=[[71,69,84,72,32,82,48],[59,32,120],[]]
noncomputable def zzw:Except (Int×List Nat) (List D)→Option (Int×List Nat)
 | .error e=>some e
 | .ok _=>none
theorem zvg:∀ p∈WR,∀ k < 4,zzw (zhE (zaV [10] (AH.take k ++ [p.1])))=some (((AH.take k).length:Int)+(bif decide (p.2=[108,97,98,101,108,32,116,119,105,99,101]) then 2 else 1),p.2):=by decide +kernel
theorem zi6 {rows:List Rw} {n:List Nat}:∀ {i:Nat},n∈(zbp rows i).map (·.1)→∃ r∈rows,n=zbL r.nm
 | 0,h=>nomatch h
 | i+1,h=>by
  cases hr:rows[i]? with
  | none=>
   have e:zbp rows (i+1)=zbp rows i:=by
    show (match rows[i]? with
     | some r=>ze9 (zbp rows i) (zbL r.nm)
     | none=>zbp rows i)=_;rw [hr]
   rw [e] at h;exact zi6 h
  | some r=>
   rw [zge hr] at h
   unfold ze9 at h
   by_cases q:zbL r.nm∈(zbp rows i).map (·.1)
   ·rw [if_pos q,List.map_map] at h
    have e:((fun x:List Nat×Int=>x.1)∘fun p=>if p.1=zbL r.nm then (p.1,p.2+1) else p)=fun p=>p.1:=by
     funext p
     show (if p.1=zbL r.nm then (p.1,p.2+1) else p).1=p.1
     split <;> rfl
    rw [e] at h
    exact zi6 h
   ·rw [if_neg q,List.map_append] at h
    rcases List.mem_append.mp h with h | h
    ·exact zi6 h
    ·exact ⟨r,List.mem_of_getElem? hr,by simpa using h⟩
theorem zyD {r:Rw} (h:r.fine):asc (zbL r.nm)=true:=by
 cases r with
 | reg n a b c=>exact (zpQ h.1).2
 | br n cond b c=>exact (zq1 h.1.1).2
theorem zwJ {rows:List Rw} (hf:∀ r∈rows,r.fine) (i:Nat):opC .NotEq (.lst (zoa (zbp rows i))) (.lst (zoa (zbp rows i)))=some (.bool false):=by
 refine zpP (k:=1) (fun d hd=>?_) (by decide)
 obtain ⟨n,hn,rfl⟩:=List.mem_map.mp hd
 obtain ⟨r,hr,rfl⟩:=zi6 (zj7 hn)
 refine zq0 (k:=0) fun d hd=>?_
 simp only [List.mem_cons,List.not_mem_nil,or_false] at hd
 rcases hd with rfl | rfl
 ·exact ziG (zka (zyD (hf r hr))) _
 ·exact zfL _ _
theorem zpT {α:Type} {f:D→Option D} {g g':α→D}:∀ {l:List α},(∀ n∈l,f (g n)=some (g' n))→zgp f (l.map g)=some (l.map g')
 | [],_=>rfl
 | n :: l,h=>by
  have h1:=h n (List.mem_cons_self ..)
  have h2:=zpT (f:=f) (g:=g) (g':=g') (l:=l) fun x hx=>h x (List.mem_cons_of_mem _ hx)
  rw [List.map_cons,List.map_cons]
  unfold zgp
  rw [h1,h2]
theorem zwK {F:EF} {cs:List (List Nat×Int)} {σ:Loc} {μ μ1:Mem} (hF:F σ μ = .ok (.d (.lst (zi5 cs))) μ1) (hl:cs.length≤1000):zeY (fun x_=>true) F zgq σ μ = .ok (.d (.lst (zoa cs))) μ1:=by
 unfold zeY
 rw [if_pos rfl,hF,bind_ok]
 show (if (zi5 cs).length≤1000000 then (match zgp (zgq σ μ1) (zi5 cs) with
  | some es=>RX.ok (V.d (.lst es)) μ1
  | none=>.stuck) else .stuck)=_
 have e:zgp (zgq σ μ1) (zi5 cs)=some (zoa cs):=zpT fun n x_=>rfl
 rw [if_pos (by unfold zi5;rw [List.length_map,zj8];lia),e]
noncomputable def zmx (p:List Nat×List Nat):D:=.tup [.str p.1,.str p.2]
theorem zwL (v:Int):∃ p∈WR,zap (.lst (WR.map zmx)) (.int (v % 18))=some (zmx p):=by
 have h1:0≤v % 18:=Int.emod_nonneg _ (by decide)
 have h2:v % 18 < 18:=Int.emod_lt_of_pos _ (by decide)
 have hl:(v % 18).toNat < WR.length:=by show _ < 18;lia
 have hit:=zef (WR.map zmx) (e:=(v % 18).toNat) (by lia)
 rw [Int.toNat_of_nonneg h1,List.getElem?_map,List.getElem?_eq_getElem hl] at hit
 exact ⟨_,List.getElem_mem hl,hit⟩
theorem zqs:∀ p∈WR,p.1.length≤100∧asc p.2=true:=by decide +kernel
theorem zqt:∀ p∈WR,∀ k < 4,(zaV [10] (AH.take k ++ [p.1])).length≤200:=by decide +kernel
theorem ztF (x:List Nat) (h:x.length≤200):(zbc x [10]).length≤1000∧∀ l∈zbc x [10],l.length≤90000:=by
 constructor
 ·unfold zbc
  rw [List.length_map]
  have:=split_le (Mine.Internal.str x) (Mine.Internal.str [10])
  rw [zbk] at this;lia
 ·have e:zaV [10] (zbc x [10])=x:=by
   have e:(zbc x [10]).map Mine.Internal.str=Txt.split (Mine.Internal.str x) (Mine.Internal.str [10]):=by
    unfold zbc
    rw [List.map_map]
    have:(Mine.Internal.str∘fun x:Str=>x.cps.toList)=id:=by funext x;exact zdx x
    rw [this,List.map_id]
   show (Txt.join (Mine.Internal.str [10]) ((zbc x [10]).map Mine.Internal.str)).cps.toList=_
   rw [e]
   unfold Txt.join
   rw [StrLaws.glued_eq_join,StrLaws.join_split];rfl
  intro l hl
  have hj:(zaV [10] (zbc x [10])).length=x.length:=by rw [e]
  rw [zfG] at hj
  have:l.length≤((zbc x [10]).map (·.length)).sum:=by
   generalize zbc x [10]=s at hl
   clear hj e
   induction s with
   | nil=>exact nomatch hl
   | cons y s ih=>
    rw [List.map_cons,List.sum_cons]
    rcases List.mem_cons.mp hl with rfl | hl
    ·lia
    ·have:=ih hl;lia
  lia
theorem zzY {b:Mem} {rows:List Rw} (hf:∀ r∈rows,r.fine) (h9:rows.length≤9) {base:Int} {l:List Int} (hl:za8 l) {ls:List (List Nat)} {s0 s3 s4 s7 s8 s10 s11 s12 s13 s17 s18 s19 s20 s21 s22:Option V} {q:Loc} {W:CF}
  (hW:W=zaj (kIf (tst (zai (opC .NotEq) (zeY (fun x_=>true) (zaw zfx 1 [(zae 2)]) zgq) (zeY (zdr 16) (zaI zdf [(zae 16)]) (zrm 16)))) (zaq (zac (.bool false))) zaz) (zaj (zam (zat 20) (zbF (WR.map fun p=>zaW [(zac (.str p.1)),(zac (.str p.2))]))) (zaj (zam (zdI [13,21]) (zai zap (zae 20) (zai zba (zaw zaB 1 [(zae 1)]) (zac (.int 18))))) (zaj (zam (zat 22) (zb5 (zbF [(zac (.str [71,69,84,72,32,82,48])),(zac (.str [59,32,120])),(zac (.str []))]) none (some (zai zba (zaw zaB 1 [(zae 1)]) (zac (.int 4)))))) (zaj (zam (zat 7) (zai zaH (zaI zbw [(zae 22)]) (zbE (tst (zai (opC .Eq) (zae 21) (zac (.str [108,97,98,101,108,32,116,119,105,99,101])))) (zac (.int 2)) (zac (.int 1))))) (zaq (zai (opC .Eq) (zaw zb0 1 [(zb9 "str" zc2 (zac (.str [10])) [(zai zaH (zae 22) (zbF [(zae 13)]))])]) (zaW [(zae 7),(zae 21)])))))))) :
  zaQ b.length (W (σ5 b rows base s0 s3 s4 s7 s8 s10 s11 s12 s13 s17 s18 s19 (s20 :: s21 :: s22 :: q)) (L5 b rows l ls (zbp rows rows.length))) = .ok (.d (.bool true)) b:=by
 subst hW
 have hcl:=zh0 rows rows.length
 have hn:=zpJ (μ:=L5 b rows l ls (zbp rows rows.length)) (k:=b.length+1) (rows:=rows) (zaN rfl) (by lia) hf
 refine zaD (t:=false) (μ1:=L5 b rows l ls (zbp rows rows.length)) ?_ (fun t=>Bool.noConfusion t) (fun x_=>zav ?_)
 ·refine zak (zah (zwK (zas (zaf (zad rfl) zag) rfl hn) (by lia)) (ztA (g:=fun n=>.lst [.str n,.int ((zbB (zbp rows rows.length) n).getD 0)]) (zqY rfl) (zqX rfl (zaN rfl) (by lia)) (by rw [zj8];lia) (fun n hn=>?_)) zaa zaa (zwJ hf _))
  show (zhP 16 _ _ (.str n)).map _=_
  rw [zpI rfl (zaN rfl) (zj7 hn)];rfl
 refine zau (v:=.d (.lst (WR.map zmx))) (μ1:=L5 b rows l ls (zbp rows rows.length)) (zbA (vs:=WR.map fun p=>V.d (zmx p)) rfl rfl) ?_
 obtain ⟨p,hp,hpi⟩:=zwL (nx l)
 refine zb7 (is:=[13,21]) (ds:=[.str p.1,.str p.2]) (zah (zad rfl) (zhJ rfl hl (by decide)) zaa zaa hpi) rfl ?_
 have hl1:=zao hl
 obtain ⟨k,hk⟩:=Int.eq_ofNat_of_zero_le (Int.emod_nonneg (nx (rest l)) (show (4:Int)≠0 by decide))
 have hk4:k < 4:=by have:=Int.emod_lt_of_pos (nx (rest l)) (show (0:Int) < 4 by decide);lia
 have hsl:zeX (.lst (AH.map D.str)) none (some (nx (rest l) % 4))=some (.lst ((AH.take k).map .str)):=by
  rw [hk]
  show (if (AH.map D.str).length≤16777216 then some (D.lst (slc (AH.map D.str) none (some (k:Int)))) else none)=_
  rw [if_pos (by decide),zpS _ _ (by show k≤3;lia),List.map_take]
 refine zau (zcz (zbA (zaf zab (zaf zab (zaf zab zag))) rfl) zcy (zcL (zhJ rfl hl1 (by decide))) zaa hsl) ?_
 have hak:((AH.take k).map D.str).length≤3:=by rw [List.length_map,List.length_take];exact Nat.min_le_right _ _
 obtain ⟨w1,w2⟩:=zqs p hp
 have w3:=zqt p hp k hk4
 have w4:=zvg p hp k hk4
 obtain ⟨w5,w6⟩:=ztF _ w3
 refine zau (zah (zaF (zaf (zad rfl) zag) (zan zaa zaA) (zdg (by lia))) (zjQ (t:=decide (p.2=[108,97,98,101,108,32,116,119,105,99,101])) (zak (zah (zad rfl) zab zaa zaa zaT)) (fun x_=>zab) (fun x_=>zab)) zaa zaa zaZ) ?_
 have hkept:=fun μ=>zi0 (μ:=μ) (text:=zaV [10] (AH.take k ++ [p.1])) (by lia) w6 w5
 have e:zhE (zaV [10] (AH.take k ++ [p.1])) = .error (((AH.take k).length:Int)+(bif decide (p.2=[108,97,98,101,108,32,116,119,105,99,101]) then 2 else 1),p.2):=by
  generalize zhE (zaV [10] (AH.take k ++ [p.1]))=z at w4
  cases z with
  | ok _=>exact nomatch w4
  | error e=>cases w4;rfl
 rw [e] at hkept
 have hmap:(AH.take k).map D.str ++ [.str p.1]=(AH.take k ++ [p.1]).map .str:=by rw [List.map_append];rfl
 have hsum:((AH.take k ++ [p.1]).map (·.length)).sum≤200:=by
  have:=zfG [10] (AH.take k ++ [p.1])
  lia
 have hadd:zaH (.lst ((AH.take k).map D.str)) (.lst [.str p.1])=some (.lst ((AH.take k ++ [p.1]).map .str)):=by
  rw [← hmap];exact zgv (c:=3) (d:=1) hak (Nat.le_refl _) (by decide)
 have hcnt:(AH.take k ++ [p.1]).length≤4:=by rw [List.length_append];rw [List.length_map] at hak;simp only [List.length_cons,List.length_nil];lia
 refine zaM (zay (zah (zas (zaf (zco zab rfl (zaf (zah (zad rfl) (zbA (zaf (zad rfl) zag) rfl) zaa zaa hadd) zag) (zan zaa (zan zaa zaA)) (zcX zaX hsum hcnt (by decide))) zag) rfl (hkept _)) (za2 (zaf (zad rfl) (zaf (zad rfl) zag)) rfl) zaa zaa ?_) (zf2 rfl))
 rw [List.length_map]
 refine zyy (k:=0) (fun d hd=>?_) (by decide)
 simp only [List.mem_cons,List.not_mem_nil,or_false] at hd
 rcases hd with rfl | rfl
 ·exact zfL _ _
 ·exact ziG (zka w2) _
theorem zwM {Φ:List V→Mem→RE} {k:Nat} {Fs:List EF} {σ:Loc} {b μ:Mem} {vs:List V} {ds:List D} (h1:zbQ Fs σ μ = .ok vs b) (hk:vs.length=k) (h:Φ vs b = .ok (.ref b.length) (b ++ [.list ds])):zjv Φ k Fs σ μ = .ok (.ref (b.length+0)) (b ++ [.list ds]):=by
 unfold zjv
 rw [h1,bind_ok,if_pos hk,h]
 show (match (b ++ [MO.list ds]).getLast? with
  | some (.list _)=>if (b ++ [MO.list ds]).dropLast.length=b.length∧b.length=b.length then RX.ok (V.ref b.length) (b ++ [MO.list ds]) else .stuck
  | _=>.stuck)=_
 rw [List.getLast?_concat]
 show (if _ then _ else _)=_
 rw [if_pos ⟨by rw [List.dropLast_concat],rfl⟩];rfl
set_option maxHeartbeats 4000000 in
theorem zzx {b:Mem} {ns:List Int} (h:ns.length≤63):ztL [.d (.lst (ns.map .int))] b = .ok (.d (.bool true)) b:=by
 refine zbh (zxT _) ?_
 unfold zvl zoW zoX
 have hr:=ztx (μ:=b) h
 have hrl:=zwE h
 refine zbb (zau (zwM (zaf (zad rfl) zag) rfl hr) ?_)
 refine zbb (zau (zdV zag rfl rfl) ?_)
 have hm:0≤nx (zif ns) % 10∧nx (zif ns) % 10 < 10:=⟨Int.emod_nonneg _ (by decide),Int.emod_lt_of_pos _ (by decide)⟩
 obtain ⟨m,hm1⟩:=Int.eq_ofNat_of_zero_le hm.1
 refine zbb (zfh (n:=m) (μ1:=b ++ [zaL (rest (zif ns)),.list []]) ?_ (by lia) ?_)
 ·rw [← hm1]
  exact zhJ (b:=b) (T:=[.list []]) rfl hrl (by decide)
 rw [List.range_eq_range']
 refine zu9 m 0 (rest (zif ns)) [] _ _ (zao hrl) (by simp;lia) (fun r h=>nomatch h) (fun l rows s3 s4 hl h9 hf=>zc8 ?_)
 clear hr hrl hm hm1 h
 refine zbb (zau (v:=.d (.int (rows.length:Nat))) (μ1:=b ++ [zaL l,.list (rows.map Rw.d)]) ?_ ?_)
 ·refine zaF (zaf (zad rfl) zag) (zan (za0 (zaN rfl)) zaA) ?_
  rw [zdg (by rw [List.length_map];lia),List.length_map]
 refine zbb (zau (zo5 rfl) ?_)
 refine zbb (zfh (n:=rows.length) (zad rfl) (by lia) ?_)
 rw [List.range_eq_range']
 refine zva (l:=l) h9 (fun s7 s8=>zc8 ?_) rows.length 0 _ _ (by lia)
 refine zbb (zau (zdV zag rfl rfl) ?_)
 refine zbb (zfh (n:=rows.length+1) (μ1:=L3 b rows l []) (zah (zad rfl) zab zaa zaa zaZ) (by lia) ?_)
 rw [List.range_eq_range']
 refine zyx hf h9 (fun l ls s7 s8 s10 s11 s12 s13 hl hL=>zc8 ?_) rows.length 0 l [] _ _ _ _ _ _ (by lia) hl ⟨zqP,(fun l h=>nomatch h),Nat.zero_le _⟩
 refine zzX hf h9 hl hL (fun base l hb0 hb1 hl=>?_)
 refine zau (zlx rfl) ?_
 refine zfh (n:=rows.length) (zad rfl) (by lia) ?_
 rw [List.range_eq_range']
 refine zyC hf h9 ⟨hb0,hb1⟩ (fun s7 s10 s17 s18 s19=>zc8 ?_) rows.length 0 _ _ _ _ _ (by lia)
 exact zzY hf h9 hl rfl
theorem ztG {v:Option Value} (h:zq3 v=true):v=some (.ref (fnV v)):=by
 unfold zq3 at h
 split at h
 ·rfl
 ·cases h
theorem ztH (h:Heap):(zb3 h).In h:=by
 intro a o e
 unfold zb3 at e
 generalize zvi h=l at e
 induction l with
 | nil=>cases e
 | cons b l ih=>
  rw [List.filterMap_cons] at e
  cases q:h.get? b with
  | none=>rw [q] at e;exact ih e
  | some ob=>
   rw [q] at e
   dsimp only [Option.map_some] at e
   rw [List.lookup_cons] at e
   cases r:a == b with
   | true=>rw [r] at e;cases e;rw [beq_iff_eq.mp r];exact q
   | false=>rw [r] at e;exact ih e
theorem zyE {h:Heap} {a:Addr} {l:List Value} (e:zlF h a=some l):∃ o items k,h.get? a=some o∧o.data = .seq items k∧items.toList=l:=by
 unfold zlF at e
 cases ho:h.get? a with
 | none=>rw [ho] at e;cases e
 | some o=>
  rw [ho] at e
  dsimp only at e
  cases hd:o.data with
  | seq items k=>rw [hd] at e;cases e;exact ⟨o,items,k,rfl,hd,rfl⟩
  | _=>rw [hd] at e;cases e
set_option tactic.hygienic true in
theorem ztI {h:Heap} {f:Addr} {x:FnShape} (e:shp h f=some x):∃ o doc pm code,h.get? f=some o∧o.data = .func ⟨x.name,x.qualname,x.params,x.body,x.scope,x.globals,x.closure,x.defaults,x.kwdefaults,doc,pm,x.annotations,code,x.closureTuple,x.builtins⟩∧h.codeRecOk code x.qualname=x.codeOk:=by
 unfold shp at e
 split at e
 ·rename_i o ho
  split at e
  ·rename_i fd hd
   cases e
   exact ⟨o,fd.doc,fd.pyModule,fd.code,ho,hd,rfl⟩
  ·cases e
 ·cases e
noncomputable def zpU (ps:List Str) (sc:Scope):Bool:=decide (sc.kind = .function) && !sc.isCoroutine && !sc.isGenerator && decide ((sc.names.take ps.length)=ps.map fun x=>(x,NameKind.local)) && decide ((sc.names.map (·.1)).Nodup)
theorem zpV {ps:List Str} {sc:Scope} (h:zpU ps sc=true):sc.kind = .function∧sc.isCoroutine=false∧sc.isGenerator=false∧(∀ (i:Nat) (x:Str),ps[i]? = some x→sc.names[i]? = some (x,NameKind.local))∧(sc.names.map (·.1)).Nodup:=by
 unfold zpU at h
 simp only [Bool.and_eq_true,decide_eq_true_eq,Bool.not_eq_true'] at h
 obtain ⟨⟨⟨⟨h1,h2⟩,h3⟩,h4⟩,h5⟩:=h
 refine ⟨h1,h2,h3,fun i x e=>?_,h5⟩
 have hi:=(List.getElem?_eq_some_iff.mp e).1
 have e2:(sc.names.take ps.length)[i]? = some (x,NameKind.local):=by rw [h4,List.getElem?_map,e];rfl
 rw [List.getElem?_take_of_lt hi] at e2
 exact e2
section
variable {κ:KK} {h:Heap} {f:Addr} {n q:Str} {st:Stmt} {ps:List Str}
theorem zmy (hk:∀ b o,h.get? b=some o→κ.B.get? b=some o) (e:shp h f=xsh n q st) (hs:zpU ps (zar st)=true)
  (hb:∀ doc pm code vals,vals.length=ps.length→bindArgs ⟨n,q,zq4 st,.stmts (zcl st),zar st,mainGlobals,[],.none,.none,doc,pm,none,code,.none,builtinsNs⟩ ⟨vals,[]⟩=pure (ps.zip vals)):ze7 κ f (zcl st) (zar st) q ps []:=by
 obtain ⟨o,doc,pm,code,ho,hdt,hc⟩:=ztI e
 obtain ⟨h1,h2,h3,h4,h5⟩:=zpV hs
 refine ⟨⟨o,_,hk _ _ ho,hdt,rfl,rfl,rfl,rfl,rfl,rfl,(Heap.CodeRec.of_ok hc).keeps hk,fun vals hl A E s Q hst H=>?_⟩,h1,h2,h3,h4,h5,Nat.zero_le _⟩
 rw [List.append_nil] at H
 rw [hb doc pm code vals (by simpa using hl)]
 exact wpAny_pure H
theorem zkb (hk:∀ b o,h.get? b=some o→κ.B.get? b=some o) {t:Addr} {its:List Value} (e:shp h f=zjj (.ref t) n q st) (ht:zlF h t=some its) {ds:List Value} (hs:zpU ps (zar st)=true) (hdl:ds.length≤ps.length)
  (hb:∀ doc pm code vals items (s:Shared) ot k,items.toList=its→vals.length+ds.length=ps.length→s.heap.get? t=some ot→ot.data = .seq items k→BindsTo s ⟨n,q,zq4 st,.stmts (zcl st),zar st,mainGlobals,[],.ref t,.none,doc,pm,none,code,.none,builtinsNs⟩ ⟨vals,[]⟩ (ps.zip (vals ++ ds))):ze7 κ f (zcl st) (zar st) q ps ds:=by
 obtain ⟨o,doc,pm,code,ho,hdt,hc⟩:=ztI e
 obtain ⟨ot,items,k,h7,h8,h9⟩:=zyE ht
 obtain ⟨h1,h2,h3,h4,h5⟩:=zpV hs
 exact ⟨⟨o,_,hk _ _ ho,hdt,rfl,rfl,rfl,rfl,rfl,rfl,(Heap.CodeRec.of_ok hc).keeps hk,fun vals hl A E s Q hst H=>hb doc pm code vals items s ot k h9 hl (hst _ _ (hk _ _ h7)) h8 _ A E Q H⟩,h1,h2,h3,h4,h5,hdl⟩
end
theorem zmz {α:Type} {l:List α} {n:Nat} (h:l.length=n+1):∃ a r,l=a :: r∧r.length=n:=by
 cases l with
 | nil=>cases h
 | cons a r=>exact ⟨a,r,rfl,Nat.succ.inj h⟩
theorem zyF {α:Type} {l:List α} (h:l.length=1):∃ a,l=[a]:=List.length_eq_one_iff.mp h
theorem zvh {α:Type} {l:List α} (h:l.length=2):∃ a b,l=[a,b]:=by
 obtain ⟨a,r,rfl,h1⟩:=zmz h
 obtain ⟨b,rfl⟩:=zyF h1
 exact ⟨a,b,rfl⟩
theorem zyG {α:Type} {l:List α} (h:l.length=3):∃ a b c,l=[a,b,c]:=by
 obtain ⟨a,r,rfl,h1⟩:=zmz h
 obtain ⟨b,c,rfl⟩:=zvh h1
 exact ⟨a,b,c,rfl⟩
theorem zz4 {α:Type} {l:List α} (h:l.length=6):∃ a b c d e f,l=[a,b,c,d,e,f]:=by
 obtain ⟨a,r,rfl,h1⟩:=zmz h
 obtain ⟨b,r,rfl,h2⟩:=zmz h1
 obtain ⟨c,r,rfl,h3⟩:=zmz h2
 obtain ⟨d,e,f,rfl⟩:=zyG h3
 exact ⟨a,b,c,d,e,f,rfl⟩
structure HOk (h:Heap):Prop where
 c:zq5 h=List.replicate 24 true
 s:zq6 h=zq7
 t:tps h=zq8
theorem ck {h:Heap} (H:HOk h) (i:Nat) (hi:i < 24):(zq5 h)[i]? = some true:=by rw [H.c,List.getElem?_replicate,if_pos hi]
theorem sk {h:Heap} (H:HOk h) (i:Nat):(zq6 h)[i]? = zq7[i]?:=by rw [H.s]
theorem tk {h:Heap} (H:HOk h) (i:Nat):(tps h)[i]? = zq8[i]?:=by rw [H.t]
theorem ztJ {h:Heap} (H:HOk h):zwV h=true:=Option.some.inj (ck H 0 (by decide))
theorem zyH {h:Heap} (H:HOk h):zwW h=true:=Option.some.inj (ck H 1 (by decide))
theorem zyI {h:Heap} (H:HOk h):zwX h=true:=Option.some.inj (ck H 2 (by decide))
theorem zyJ {h:Heap} (H:HOk h):zwY h=true:=Option.some.inj (ck H 3 (by decide))
theorem zyK {h:Heap} (H:HOk h):zwZ h=true:=Option.some.inj (ck H 4 (by decide))
theorem zyL {h:Heap} (H:HOk h):zw0 h=true:=Option.some.inj (ck H 5 (by decide))
theorem zyM {h:Heap} (H:HOk h):zw1 h=true:=Option.some.inj (ck H 6 (by decide))
theorem ztK {h:Heap} (H:HOk h):zw2 h=true:=Option.some.inj (ck H 7 (by decide))
theorem zyN {h:Heap} (H:HOk h):zw3 h=true:=Option.some.inj (ck H 8 (by decide))
theorem zyO {h:Heap} (H:HOk h):zw4 h=true:=Option.some.inj (ck H 9 (by decide))
theorem zyP {h:Heap} (H:HOk h):zw5 h=true:=Option.some.inj (ck H 10 (by decide))
theorem zyQ {h:Heap} (H:HOk h):zw6 h=true:=Option.some.inj (ck H 11 (by decide))
theorem zyR {h:Heap} (H:HOk h):zw7 h=true:=Option.some.inj (ck H 12 (by decide))
theorem zyS {h:Heap} (H:HOk h):zw8 h=true:=Option.some.inj (ck H 13 (by decide))
theorem zyT {h:Heap} (H:HOk h):zw9 h=true:=Option.some.inj (ck H 14 (by decide))
theorem zyU {h:Heap} (H:HOk h):zxa h=true:=Option.some.inj (ck H 15 (by decide))
theorem zyV {h:Heap} (H:HOk h):zxb h=true:=Option.some.inj (ck H 16 (by decide))
theorem zyW {h:Heap} (H:HOk h):zxc h=true:=Option.some.inj (ck H 17 (by decide))
theorem zyX {h:Heap} (H:HOk h):ztM h=true:=Option.some.inj (ck H 18 (by decide))
theorem zyY {h:Heap} (H:HOk h):ztN h=true:=Option.some.inj (ck H 19 (by decide))
theorem zyZ {h:Heap} (H:HOk h):ztO h=true:=Option.some.inj (ck H 20 (by decide))
theorem zy0 {h:Heap} (H:HOk h):zxd h=true:=Option.some.inj (ck H 21 (by decide))
theorem zy1 {h:Heap} (H:HOk h):zxe h=true:=Option.some.inj (ck H 22 (by decide))
theorem zy2 {h:Heap} (H:HOk h):zxf h=true:=Option.some.inj (ck H 23 (by decide))
noncomputable def kOf (w:World) (h B:Heap) (os:OsState) (mb:Str→Option Value):KK:=⟨w,B,zb3 h,fun n=>gA h (fN n),fun n=>mA h sRR (fN (n+52)),os,gA h sRR,cns,gA h sAE,[zcn,zbM],h.nsMap mainGlobals,mb⟩
section
variable {w:World} {h B:Heap} {os:OsState} {mb:Str→Option Value}
theorem zr6 (H:HOk h) {n:Str} (hn:n∈gns):(kOf w h B os mb).mg n=some (.ref (gA h n)):=ztG (List.all_eq_true.mp (zy0 H) n hn)
theorem zzy (H:HOk h) {n:Str} (hn:n∈mns) (ho:n∉cns):zlS (kOf w h B os mb) n (mA h sRR n):=by
 have e:=List.all_eq_true.mp (ztK H) n hn
 rw [Bool.and_eq_true,beq_iff_eq] at e
 exact ⟨(ztJ H),e.2,e.1,ho⟩
theorem zzz (H:HOk h) (hk:∀ b o,h.get? b=some o→B.get? b=some o) (lim:B.NoLimit) (dig:∃ mc,B.Ns cStatics mc∧mc "sys.int_max_str_digits"=none) (blt:B.Ns builtinsNs mb) (hb:∀ x:Str,x≠"__name__"→mb x=bootBuiltins x):WF (kOf w h B os mb):=by
 have hg:B.Ns mainGlobals (h.nsMap mainGlobals):=(Heap.Ns.of_isNs (zy2 H)).keeps hk
 refine ⟨lim,(ztH h).keeps hk,dig,?_,hg,blt,fun x hx=>?_,fun x hx=>?_⟩
 ·obtain ⟨o,_,_,ho,_⟩:=hg
  exact Nat.lt_of_le_of_lt (by decide) (Heap.lt_size ho)
 ·have:=List.all_eq_true.mp (zy1 H) x hx
  exact Option.isNone_iff_eq_none.mp this
 ·refine hb _ ?_
  have:∀ x∈zfN,Str.ofString x≠"__name__":=by decide +kernel
  exact this x hx
theorem zy3 (H:HOk h) (W:WF (kOf w h B os mb)):WFC (kOf w h B os mb):=by
 refine ⟨W,fun i x hx=>?_,by show cns.Nodup;decide +kernel,by show cns.length≤100;decide⟩
 have hm:x∈cns:=List.mem_of_getElem? hx
 have e1:=List.all_eq_true.mp (zyI H) x hm
 have e2:=List.all_eq_true.mp (zyL H) x hm
 exact ⟨(ztJ H),(zyH H),⟨none,beq_iff_eq.mp e1,rfl⟩,beq_iff_eq.mp (zyJ H),(zyK H),beq_iff_eq.mp e2⟩
set_option tactic.hygienic true in
theorem zwN (H:HOk h) (hk:∀ b o,h.get? b=some o→B.get? b=some o):zeJ (kOf w h B os mb):=by
 have hx:=(zyX H)
 have hy:=(zyY H)
 have hi:=(zyZ H)
 unfold ztM zwS at hx
 unfold ztN zwT at hy
 unfold ztO at hi
 rw [Bool.and_eq_true] at hi
 obtain ⟨hi1,hi2⟩:=hi
 refine ⟨?_,(zyO H),beq_iff_eq.mp (zyP H),(zyQ H),beq_iff_eq.mp (zyR H),beq_iff_eq.mp (zyS H),beq_iff_eq.mp (zyT H),beq_iff_eq.mp (zyU H),beq_iff_eq.mp (zyV H),beq_iff_eq.mp (zyW H),rfl⟩
 cases hf:h.clsAt mainGlobals sAE with
 | none=>rw [hf] at hx;cases hx
 | some y=>
  obtain ⟨C,o,cd⟩:=y
  rw [hf] at hx
  obtain ⟨hn,ho,hd⟩:=Heap.clsAt_spec hf
  have hC:gA h sAE=C:=by unfold gA;rw [hn];rfl
  have hN:cNs h sAE=cd.ns:=by unfold cNs;rw [hf]
  obtain ⟨oc,dd,dt,sl⟩:=o
  obtain ⟨nm,bs,mro,N,q,hdct,sn,sub,ab,col,hdel⟩:=cd
  simp only [Bool.and_eq_true,decide_eq_true_eq,Bool.not_eq_true'] at hx
  obtain ⟨⟨⟨⟨⟨⟨h1,h2⟩,h3⟩,h4⟩,h5⟩,h6⟩,h7⟩:=hx
  obtain ⟨l⟩:=sl
  obtain ⟨k0,k1,k2,k3,k5,rfl⟩:=six_places (l:=l) (by simpa using h5) (by simpa using h6)
  dsimp only at h1 hd hN
  subst h1;subst hd;subst h2;subst h3;subst h4
  cases hg:h.clsAt mainGlobals sYE with
  | none=>rw [hg] at hy;cases hy
  | some z=>
   obtain ⟨Y,oy,cy⟩:=z
   rw [hg] at hy
   obtain ⟨yn,yo,yd⟩:=Heap.clsAt_spec hg
   have hY:gA h sYE=Y:=by unfold gA;rw [yn];rfl
   simp only [Bool.and_eq_true,Option.isNone_iff_eq_none] at hy
   obtain ⟨y1,y2⟩:=hy
   obtain ⟨yc,ydd,ydt,ysl⟩:=oy
   dsimp only at yd
   subst yd
   have T:OwnTail B bmE (.ref (gA h sYE) :: bmE):=by
    rw [hY]
    exact .own (hk _ _ yo) ((Heap.Ns.of_isNs y1).keeps hk) y2 .base
   refine ⟨⟨mA h sAE sIn,nm,q,N,bs,.ref (gA h sYE) :: bmE,sn,sub,ab,col,dd,k0,k1,k2,k3,k5,h.nsMap N,?_,(Heap.Ns.of_isNs h7).keeps hk,?_,T,fun self=>?_,?_,?_⟩⟩
   ·show B.get? (gA h sAE)=_
    rw [hC]
    have ho':=hk _ _ ho
    rw [← hC] at ho' ⊢
    exact ho'
   ·have:=ztG hi1
    rw [hN] at this
    unfold mA
    rw [hN];exact this
   ·show refuseLoop self "__setattr__" (.ref _ :: .ref _ :: bmE)=_
    rw [refuseLoop_ref,refuseLoop_ref]
    exact PySem.F.store_Exception.passes self
   ·unfold zwU at hi2
    split at hi2
    ·rename_i oI hoI
     exact ⟨oI,hk _ _ hoI,of_decide_eq_true hi2⟩
    ·cases hi2
   ·have F:=zmy (κ:=kOf w h B os mb) (ps:=[zd8,zcn,zbM]) hk (Option.some.inj (sk H 0)) (by decide +kernel) (fun doc pm code vals hl=>by obtain ⟨a,b,c,rfl⟩:=zyG hl;rfl)
    exact ⟨zar (mAt 18 0),_,_,_,_,_,_,_,_,_,F,by decide +kernel⟩
noncomputable def fdO (n:Nat) (doc pm code:Value):FuncData:=⟨fN n,fQ n,zq4 (sOf n),.stmts (zcl (sOf n)),zar (sOf n),mainGlobals,[],.none,.none,doc,pm,none,code,.none,builtinsNs⟩
theorem bnd:fI.map (fun n doc pm code a b c d e f=>bindArgs (fdO n doc pm code) ⟨[a,b,c,d,e,f].take (fP n).length,[]⟩)=fI.map (fun n doc pm code a b c d e f=>pure ((fP n).zip ([a,b,c,d,e,f].take (fP n).length))):=by kernel_rfl
theorem zzZ:∀ l:List Value,Nat.ble l.length 6=true→∃ a b c d e f,l=[a,b,c,d,e,f].take l.length
 | [],_=>⟨.none,.none,.none,.none,.none,.none,rfl⟩
 | [a],_=>⟨a,.none,.none,.none,.none,.none,rfl⟩
 | [a,b],_=>⟨a,b,.none,.none,.none,.none,rfl⟩
 | [a,b,c],_=>⟨a,b,c,.none,.none,.none,rfl⟩
 | [a,b,c,d],_=>⟨a,b,c,d,.none,.none,rfl⟩
 | [a,b,c,d,e],_=>⟨a,b,c,d,e,.none,rfl⟩
 | [a,b,c,d,e,f],_=>⟨a,b,c,d,e,f,rfl⟩
theorem chk:(fI.all fun n=>zpU (fP n) (zar (sOf n)) && Nat.ble (fP n).length 6)=true:=by kernel_rfl
theorem zzA (H:HOk h) (hk:∀ b o,h.get? b=some o→B.get? b=some o) (n:Nat) (hn:fI.elem n=true):ze7 (kOf w h B os mb) (adH h n) (zcl (sOf n)) (zar (sOf n)) (fQ n) (fP n) []:=by
 have hm:=List.elem_iff.mp hn
 have c:=Bool.and_eq_true_iff.mp (List.all_eq_true.mp chk n hm)
 refine zmy hk (List.map_inj_left.mp (List.cons.inj (List.cons.inj (List.cons.inj H.s).2).2).2 n hm) c.1 fun doc pm code vals hl=>?_
 obtain ⟨x,y,z,u,v,t,e⟩:=zzZ vals (hl▸c.2)
 have q:=congrFun (congrFun (congrFun (congrFun (congrFun (congrFun (congrFun (congrFun (congrFun (List.map_inj_left.mp bnd n hm) doc) pm) code) x) y) z) u) v) t
 rw [← hl,← e] at q
 exact q
theorem zz0:∀ n∈List.range 11,fN (n+52)∉cns:=by decide +kernel
theorem zzB (H:HOk h) (hk:∀ b o,h.get? b=some o→B.get? b=some o) (W:WF (kOf w h B os mb)):PG (kOf w h B os mb):=by
 have Wc:=zy3 H W
 have R:=zwN (w:=w) (os:=os) (mb:=mb) H hk
 have M0:=List.all_eq_true.mp (ztK H) sIn (by decide +kernel)
 rw [Bool.and_eq_true,beq_iff_eq] at M0
 exact {
  toWFC:=Wc
  n0:=rfl
  n1:=rfl
  n2:=rfl
  cls:=⟨(zyM H),M0.2,M0.1,(zyN H)⟩
  gC:=zr6 H (n:=sRR) (by decide +kernel)
  gX:=zr6 H (n:=sAE) (by decide +kernel)
  rais:=R
  fs:=zzA H hk
  gs:=fun n hn=>zr6 H (List.mem_append_left _ (List.mem_map_of_mem (List.elem_iff.mp hn)))
  Ms:=fun n hn=>zzy H (List.mem_map_of_mem (List.mem_range.mpr (Nat.le_of_ble_eq_true (Bool.and_eq_true_iff.mp hn).1))) (zz0 n (List.mem_range.mpr (Nat.le_of_ble_eq_true (Bool.and_eq_true_iff.mp hn).1)))
  fR0:=zkb hk (Option.some.inj (sk H 1)) (Option.some.inj (tk H 0)) (by decide +kernel) (by decide) (fun doc pm code vals items s ot k hit hl hT hS=>by obtain ⟨a,b,rfl⟩:=zvh (show vals.length=2 from hl);obtain ⟨l⟩:=items;subst hit;exact BindsTo.of_defaults rfl hT hS rfl rfl)
  fR1:=zkb hk (Option.some.inj (sk H 1)) (Option.some.inj (tk H 0)) (by decide +kernel) (by decide) (fun doc pm code vals items s ot k hit hl hT hS=>by obtain ⟨a,rfl⟩:=zyF (Nat.succ.inj hl);obtain ⟨l⟩:=items;subst hit;exact BindsTo.of_defaults rfl hT hS rfl rfl)
  fL:=zkb hk (Option.some.inj (sk H 2)) (Option.some.inj (tk H 1)) (by decide +kernel) (by decide) (fun doc pm code vals items s ot k hit hl hT hS=>by obtain ⟨a,b,rfl⟩:=zvh (show vals.length=2 from hl);obtain ⟨l⟩:=items;subst hit;exact BindsTo.of_defaults rfl hT hS rfl rfl)
 }
end
section
open PySem.Calls
theorem zzC:∀ w:World,(fencedOpening treeTable pg w 5000).map (fun s=>(s.heap,s.gens,s.drawn,s.toks))=some (boot_heap w.params,Array.mk [],boot_drawn,boot_toks):=boot_open (by rfl) (by decide) (fun s=>by rfl)
theorem zzD:∀ w:World,((boot_heap w.params).isNs mainGlobals && (Array.mk []:Array GenState).size == 0,(boot_heap w.params).objs.size,(boot_heap w.params).nsMap mainGlobals "__annotations__")=(true,11,some (.ref 6)):=by
 intro w;kernel_rfl
theorem zwO (w:World) {st:SharedT} {os:OsState} (hst:topRun treeTable pg w 11 (some (.ref 6)) 2700 ⟨boot_heap w.params,Array.mk [],boot_drawn,boot_toks,os⟩ (topStub pg)=some st.abs) (l1:zlH (boot_heap w.params) st.abs=true):topFrom treeTable pg w 5000 ⟨boot_heap w.params,Array.mk [],boot_drawn,boot_toks,os⟩=some st.abs:=by
 obtain ⟨z1,z2,z3⟩:_∧_∧_:=by simpa only [Prod.mk.injEq] using zzD w
 have r:=topRun_mono (5000 - 2700) _ _ _ _ hst
 have r:topRun treeTable pg w 11 (some (.ref 6)) 5000 ⟨boot_heap w.params,Array.mk [],boot_drawn,boot_toks,os⟩ (topStub pg)=some st.abs:=r
 unfold topFrom
 dsimp only
 rw [z1,z2,z3,r]
 unfold zlH at l1
 show (match staticsOk (importedModules pg.main.body) (boot_heap w.params) st.abs.heap && namesBound pg st.abs.heap && gensDone st.abs && laidKept (boot_heap w.params) st.abs.heap with | true=>_ | false=>_)=_
 rw [l1]
theorem zz1 (w:World) (os:OsState):∃ st:SharedT,zk8 treeTable pg w 11 (some (.ref 6)) 2700 (zlG w os) (topStub pg)=some st∧zlH (boot_heap w.params) st.abs=true∧openSeen qv zfO (importedModules pg.main.body) xt true st.abs=openGood qv zfO∧zob st.abs=zoc:=by
 obtain ⟨st,hst,hv⟩:=Option.map_eq_some_iff.mp (zzG w os)
 have h3:=zzH w os
 have h4:=zzI w os
 rw [hst] at h3 h4
 have h3:=Option.some.inj h3
 exact ⟨st,hst,congrArg (·.1) hv,congrArg (·.2) hv,Prod.ext (congrArg (·.1) h3) (Prod.ext (zvB (congrArg (·.2.2.1) h3) (congrArg (·.2.2.2.1) h3) (congrArg (·.2.2.2.2.1) h3) (congrArg (·.2.2.2.2.2) h3) (Option.some.inj h4)) (congrArg (·.2.1) h3))⟩
theorem zz2 (w:World) (os:OsState):∃ s:Shared,topFrom treeTable pg w 5000 ⟨boot_heap w.params,Array.mk [],boot_drawn,boot_toks,os⟩=some s∧openSeen qv zfO (importedModules pg.main.body) xt true s=openGood qv zfO∧zob s=zoc:=by
 obtain ⟨st,hst,l1,l2,l3⟩:=zz1 w os
 have r:=zm7 _ _ _ _ _ _ _ _ _ hst
 rw [zr9] at r
 exact ⟨st.abs,zwO w r l1,l2,l3⟩
theorem zzE:LeftO pg qv zfO xt zob (fun x_=>zoc) 5000:=by
 intro w
 obtain ⟨⟨h,gs,d,k,os⟩,e,e'⟩:=Option.map_eq_some_iff.mp (zzC w)
 obtain ⟨rfl,rfl,rfl,rfl⟩:h=boot_heap w.params∧gs=Array.mk []∧d=boot_drawn∧k=boot_toks:=by simpa using e'
 obtain ⟨s,t,l2,l3⟩:=zz2 w os
 unfold openEnds
 rw [e]
 rw [Option.bind_some,t,Option.map_some]
 exact congrArg some (Prod.ext l2 l3)
noncomputable def zpW (_w:World) (h:Heap):Prop:=∃ h0:Heap,HOk h0∧∀ b o,h0.get? b=some o→h.get? b=some o
theorem zwP (w:World) (s:Shared) (e:zob s=zoc):zpW w s.heap:=by
 exact ⟨s.heap,⟨congrArg (·.1) e,congrArg (·.2.1) e,congrArg (·.2.2) e⟩,fun x_ x_ e=>e⟩
theorem zr7 (w:World) (h h':Heap) (x:zpW w h) (k:∀ b o,h.get? b=some o→h'.get? b=some o):zpW w h':=by
 obtain ⟨h0,a,b⟩:=x
 exact ⟨h0,a,fun b' o e=>k _ _ (b _ _ e)⟩
theorem znC {R:WRecords}:∀ {xs:List WData},WShape.hasItems R xs .int=true→∃ ns:List Int,xs=ns.map .int
 | [],_=>⟨[],rfl⟩
 | x :: xs,h=>by
  have h:=Bool.and_eq_true_iff.mp (show (WShape.has R x .int && WShape.hasItems R xs .int)=true from h)
  obtain ⟨ns,rfl⟩:=znC h.2
  have h1:=h.1
  cases x <;> first | exact ⟨_ :: ns,rfl⟩ | exact Bool.noConfusion (show false=true from h1)
theorem zwQ {args:List WData} (h:rw0.row.toRowW.claim.pre args=true):∃ ns:List Int,args=[.list (ns.map .int)]∧ns.length≤63:=by
 obtain ⟨h1,h2⟩:=pre_splitW h
 obtain ⟨d,r,rfl,h3,h4⟩:=hasAllW_cons h1
 have hr:r=[]:=by
  cases r with
  | nil=>rfl
  | cons _ _=>exact Bool.noConfusion (show false=true from h4)
 subst hr
 have hd:∃ xs,d = .list xs∧WShape.hasItems rw0.row.records xs .int=true:=by
  cases d <;> first | exact ⟨_,rfl,(Bool.or_false _).symm.trans (show (WShape.hasItems rw0.row.records _ .int || false)=true from h3)⟩ | exact Bool.noConfusion (show false=true from h3)
 obtain ⟨xs,rfl,h5⟩:=hd
 obtain ⟨ns,rfl⟩:=znC h5
 refine ⟨ns,rfl,?_⟩
 rcases Nat.lt_or_ge 63 ns.length with q | q
 ·exfalso
  have h6:(WTm.and (.not (.lt (.lit (.int 63)) (.len (.arg 0)))) (.lit (.bool true))).holds rw0.row.records { args:=[.list (ns.map .int)] }=true:=h2
  have e:less? (WData.int 63) (WData.int ((ns.map WData.int).length:Nat))=some true:=congrArg some (decide_eq_true (by rw [List.length_map];lia))
  have e2:(WTm.and (.not (.lt (.lit (.int 63)) (.len (.arg 0)))) (.lit (.bool true))).holds rw0.row.records { args:=[.list (ns.map .int)] }=(match (match (match Option.map WData.bool (less? (WData.int 63) (WData.int ((ns.map WData.int).length:Nat))) with
   | some (WData.bool b)=>some (WData.bool !b)
   | _=>none) with
   | some (WData.bool false)=>some (WData.bool false)
   | some (WData.bool true)=>some (WData.bool true)
   | _=>none) with
   | some (WData.bool true)=>true
   | _=>false):=rfl
  rw [e2,e] at h6
  exact Bool.noConfusion (show false=true from h6)
 ·exact q
theorem zpX {w:World} {h:Heap}:∀ {vs:List Value} {ns:List Int},WellAll w.params h vs (ns.map .int)→zaC w (fun a o=>h.get? a=some o) (ns.map .int) vs
 | [],[],_=>.nil
 | v :: vs,n :: ns,x=>by
  cases x with
  | cons a b=>cases a;exact .cons (.int n _) (zpX b)
 | [],_ :: _,x=>nomatch x
 | _ :: _,[],x=>nomatch x
theorem zwR {w:World} {I:SI} {ρ:List (List Addr)} {d:D} {v:Value} (h:Rd w I d v):RVs w I ρ [.d d] [v]:=.cons (.d h) .nil
set_option tactic.hygienic true in
theorem zzF:∀ {d:DefRec} {kwd:List (Str×Expr)},d.name=Str.ofString "law"→WalkO qv zfO (XL qv []) zpW rw0.row.toRowW d kwd fun f vs=>PySem.call f vs:=by
 intro d kwd hdn w s₀ s₁ mg mb G Y a o pm cd doc dV kV ho hd hcd hD hmg hgens args vals as hpre hlay hrd hwl hlo
 obtain ⟨ns,rfl,hns⟩:=zwQ hpre
 obtain ⟨h0,H,hk⟩:=Y
 have T:=G.T
 have W:WF (kOf w h0 s₁.heap s₁.os mb):=zzz H hk T.nolimit T.nodigits T.b T.builtins
 have P:=zzB H hk W
 have F:=zxU P
 have hfa:(kOf w h0 s₁.heap s₁.os mb).fa 51=a:=by
  have e1:(kOf w h0 s₁.heap s₁.os mb).mg (Str.ofString "law")=some (.ref ((kOf w h0 s₁.heap s₁.os mb).fa 51)):=P.gs 51 rfl
  obtain ⟨o1,es1,ep1,q1,q2,q3,q4⟩:=W.glob
  obtain ⟨o2,es2,ep2,r1,r2,r3,r4⟩:=T.g
  have q1:s₁.heap.get? mainGlobals=some o1:=q1
  rw [q1] at r1
  cases r1
  rw [q2] at r2
  cases r2
  have e2:=(q4 (Str.ofString "law")).symm.trans (r4 _)
  rw [e1,← hdn,hmg] at e2
  injection e2 with e2;injection e2
 rw [hfa] at F
 cases hwl with
 | cons hw1 hw2=>
 cases hw2
 cases hw1 with
 | list hl1 hl2=>
 rename_i l vs
 refine wpAny_call (F.run callerA [] s₁ [] [] [.d (.lst (ns.map .int))] _ _ ⟨rfl,rfl,by decide,by decide⟩ ⟨fun x_ x_ e=>e,fun f hf=>(nomatch hf),List.nodup_nil,fun a ha=>(nomatch ha),fun f hf=>(nomatch hf),rfl,fun k o hk=>(nomatch hk)⟩ hgens rfl (zwR ?_) rfl (Nat.le_refl _) ?_)
 ·refine .lst (o:={ cls:=.type "list",data:=.seq vs.toArray }) ⟨hl1,fun h=>(nomatch h),fun h=>(nomatch h)⟩ ⟨0,rfl⟩ ?_
  exact (zpX hl2).mono fun a o h=>⟨h,fun h=>(nomatch h),fun h=>(nomatch h)⟩
 ·rw [zzx hns]
  intro s' val I' hth hkp hg' hos' rv
  cases rv with
  | d r=>
  cases r
  refine ⟨.inl ⟨.bool true,.bool true,[],rfl,fun cls=>rfl,.bool true,?_,fun x_=>⟨List.nodup_nil,fun a ha=>(nomatch ha)⟩⟩,.of_keep fun b o e=>hkp b o ⟨e,fun h=>(nomatch h),fun h=>(nomatch h)⟩,hos',.of_eq (hg'.trans hgens)⟩
  wrow_post
set_option maxHeartbeats 4000000 in
theorem holds0:rw0.row.wellSaid=true→rw0.row.Holds:=fun k1=>
 holds_open (q:=qv) (loose:=zfO) (Xt:=xt) (XP:=XL qv []) (Yf:=zob) (Ya:=fun x_=>zoc) (YP:=zpW) (N:=5000) zzE zwP zr7
  (fun s e=>xl_of s (Bool.and_eq_true_iff.mp e).1) XL.keeps (by rfl) (by rfl) (by rfl) (fun s e=>recFacts_of (Bool.and_eq_true_iff.mp e).2) rfl k1 (by decide +kernel) ⟨rfl,rfl,rfl,rfl,rfl,by decide +kernel⟩
  ⟨[.list [.int 3,.int 1]],by decide +kernel,by decide +kernel⟩ (zzF rfl)
end
end Mine.Internal
theorem PySem.Challenge.cw_pb0360_01_holds : PySem.Challenge.rw_pb0360_01.Holds :=
 holds_law Mine.Internal.said0 Mine.Internal.holds0
