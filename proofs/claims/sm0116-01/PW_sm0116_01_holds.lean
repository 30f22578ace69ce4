import PyProof.Rows.All
import PyProof.InstStoreFacts
import PyProof.NsDelKeeps
import KE.KUnpack
import KE.KPop
import KE.KListMore
import KE.KDictSum
import KE.KDictObj
import KE.KDictOf
import KE.KIsNot
import KE.KSliceW
import KE.KPopAny
import KE.KRevSl
import Wide.FinOn
import OpenK.AllK
import Wide.All
import PySem.Challenge.RW_sm0116_01
set_option maxRecDepth 100000
set_option maxHeartbeats 0
set_option Elab.async false
set_option genInjectivity false
set_option genSizeOf false
set_option linter.all false
namespace Mine
open PySem PySem.W PySem.Calls PyProof.Rows
abbrev pw : Program:=PySem.Challenge.pw_sm0116_01
noncomputable def fileV (t : Nat) : Value:=.str (Str.ofString "/claim/cut.py") t
noncomputable def ent (P : Params) (x : Str) (t : Nat) (v : Value) : DictEntry:=⟨(if x.cps.isEmpty then 0 else reduceHash (P.strHash x.cps)),.str x t,v⟩
noncomputable def strVs : List Str → Nat → List Value
  | [],_=>[]
  | x :: r,t=>.str x t :: strVs r (t + 1)
noncomputable def tupO (vs : List Value) : Obj:={ cls:=.type "tuple",data:=.seq vs.toArray }
noncomputable def fldO (vs : List Value) : Obj:={ cls:=.none,data:=.fields vs.toArray }
noncomputable def defObjs (b t : Nat) (pm dV : Value) (name qual : Str) (a : Arguments) (body : List Stmt) (sc : Scope) (line : Nat) : List Obj × Nat × Nat :=
  let tm : Obj:={ cls:=.none,data:=.func { name,qualname:=qual,params:=a,body:=.stmts body,scope:=sc,globals:=builtinsNs,closure:=[],defaults:=.none,kwdefaults:=.none } }
  let cd (t3 : Nat) (v1 v2 v3 : Value) : Obj:={ cls:=.type "code",data:=.fields #[.str name t,.str qual (t + 1),fileV (t + 2),rawInt line,rawInt (a.posonlyargs.length + a.args.length : Nat),rawInt a.posonlyargs.length,rawInt a.kwonlyargs.length,rawInt 3,.ref b,.bool true,rawInt 181,.ref (b + 1),.none,v1,v2,v3,rawInt t3,rawInt line,fileV (t3 + 1)] }
  let fn (c : Addr) : Obj:={ cls:=.type "function",data:=.func { name,qualname:=qual,params:=a,body:=.stmts body,scope:=sc,globals:=mainGlobals,closure:=[],defaults:=dV,kwdefaults:=.none,pyModule:=pm,code:=.ref c,builtins:=builtinsNs } }
  match localNames a sc (.stmts body) with
  | some l =>
    let t2:=t + 3 + l.1.length
    let t3:=t2 + l.2.length
    ([tupO [],fldO [],tupO (strVs l.1 (t + 3)),tupO (strVs l.2 t2),tm,cd t3 (.ref (b + 2)) (.ref (b + 3)) (.ref (b + 4)),fn (b + 5)],t3 + 2,b + 5)
  | none=>([tupO [],fldO [],tm,cd (t + 3) .none .none (.ref (b + 2)),fn (b + 3)],t + 5,b + 3)
structure TS where
  objs : List Obj
  es : List DictEntry
  pl : List Value
  n : Nat
  t : Nat
  pm : Value
  st : List DictEntry
noncomputable def dfltsOf (t : Nat) : List Expr → List Value × Nat
  | []=>([],t)
  | .Constant (.int i) _ _ :: r=>let (l,t'):=dfltsOf (t + 1) r; (.int i t :: l,t')
  | .Constant (.bool b) _ _ :: r=>let (l,t'):=dfltsOf t r; (.bool b :: l,t')
  | _ :: r=>let (l,t'):=dfltsOf t r; (.none :: l,t')
noncomputable def defAt (n t : Nat) (pm : Value) (name qual : Str) (a : Arguments) (body : List Stmt) (sc : Scope) (line : Nat) : List Obj × Nat × Nat × Nat :=
  match a.defaults with
  | [] => let (l,t',c):=defObjs n t pm .none name qual a body sc line
          (l.reverse,c + 1,c,t')
  | ds => let (vs,t1):=dfltsOf t ds
          let (l,t',c):=defObjs (n + 1) t1 pm (.ref n) name qual a body sc line
          (l.reverse ++ [tupO vs],c + 1,c,t')
noncomputable def methodsAt (P : Params) (pm : Value) (cn : Str) : List Stmt → Nat → Nat → List Obj → List DictEntry → List Value → List Obj × List DictEntry × List Value × Nat × Nat
  | [],n,t,os,es,pl=>(os,es,pl,n,t)
  | .FunctionDef name a body _ _ _ sc _ _ pos :: r,n,t,os,es,pl =>
    let (l,f,c,t'):=defAt n t pm name (cn ++ (Str.ofString "." ++ name)) a body sc pos.line
    methodsAt P pm cn r (f + 1) (t' + 1) (l ++ os) (ent P name t' (.ref f) :: es) (pl ++ [rawInt pos.line,rawInt pos.col,.ref c])
  | _ :: r,n,t,os,es,pl=>methodsAt P pm cn r n t os es pl
structure ClsKind where
  given : List Value
  bases : List Value
  mro : List Value
  newId : String
  dictG : Bool
  weakG : Bool
  stat : Nat
noncomputable def clsAt (P : Params) (k : ClsKind) (n t : Nat) (pm : Value) (name : Str) (body : List Stmt) (statics : List Str) (line : Nat) : List Obj × Nat × Nat × Nat × Nat :=
  let ns:=n + 2
  let fr : Obj:={ cls:=.type "frame",data:=.plain,slots:=#[some (.ref (n + 5)),some (.ref 3),some (.ref ns),none,some pm,none,some (.ref 0)] }
  let (os,es,pl,n1,t1):=methodsAt P pm name body (n + 7) (t + 12) [] [] []
  let stv:=strVs statics t1
  let t2:=t1 + statics.length
  let first:=[ent P (Str.ofString "__module__") (t + 7) pm]
  let fl:=ent P (Str.ofString "__firstlineno__") (t + 11) (.int line (t + 10))
  let sa:=ent P (Str.ofString "__static_attributes__") t2 (.ref n1)
  let nsEs:=first ++ [ent P (Str.ofString "__qualname__") (t + 9) (.str name (t + 8)),fl] ++ es.reverse ++ [sa]
  let c:=n1 + 2
  let (dE,dO,t3):=if k.dictG then ([ent P (Str.ofString "__dict__") (t2 + 2) (.ref (c + 1))],[({ cls:=.type "getset_descriptor",data:=.fields #[.str (Str.ofString "__dict__") (t2 + 1),.ref c,.builtin "function.__dict__",.builtin "function.__dict__#set"] } : Obj)],t2 + 3) else ([],[],t2 + 1)
  let c1:=c + 1 + dO.length
  let (wE,wO,t4):=if k.weakG then ([ent P (Str.ofString "__weakref__") (t3 + 1) (.ref c1)],[({ cls:=.type "getset_descriptor",data:=.fields #[.str (Str.ofString "__weakref__") t3,.ref c,.builtin "ExceptionGroup.__weakref__",.none] } : Obj)],t3 + 2) else ([],[],t3)
  let clsEs:=first ++ [fl] ++ es.reverse ++ [sa] ++ dE ++ wE ++ [ent P (Str.ofString "__doc__") t4 .none]
  let t5:=t4 + 1 + k.stat
  let objs : List Obj:=[tupO k.given,{ cls:=.type "builtin_function_or_method",data:=.fields #[.builtin "type.__prepare__",.type "type"] },
    { cls:=.type "dict",data:=.dict nsEs.toArray nsEs.length },tupO [],fldO pl,
    { cls:=.type "code",data:=.fields #[.str name (t + 2),.str name (t + 3),fileV (t + 4),rawInt line,rawInt 0,rawInt 0,rawInt 0,rawInt 0,.ref (n + 3),.bool false,rawInt 181,.ref (n + 4),.none,.none,.none,.none,rawInt ((t + 5 : Nat) : Int),rawInt line,fileV (t + 6)] },fr] ++
    os.reverse ++ [tupO stv,{ cls:=.type "dict",data:=.dict clsEs.toArray (2 + dE.length + wE.length) },
    { cls:=.type "type",data:=.cls { name,bases:=k.bases,mro:=.ref c :: k.mro,ns:=n1 + 1,qualname:=name },slots:=#[(if k.given.isEmpty then none else some (.ref n)),none,some (.str name t),some (.str name (t + 8)),some (.builtin k.newId),some (.bool true)] }] ++
    dO ++ wO ++ [{ cls:=.type "super",data:=.fields #[.ref c,.ref c,.ref c] },{ cls:=.type "builtin_function_or_method",data:=.fields #[.builtin "object.__init_subclass__",.ref c] }]
  (objs.reverse,c,n + 5,t4 + 1,t5 + 1)
noncomputable def plainCls : ClsKind:={ given:=[],bases:=[.type "object"],mro:=[.type "object"],newId:="object.__new__",dictG:=true,weakG:=true,stat:=0 }
noncomputable def step (P : Params) (s : TS) : Stmt → TS
  | .FunctionDef name a body _ _ _ sc _ _ pos =>
    let (l,f,c,t'):=defAt s.n s.t s.pm name name a body sc pos.line
    { s with objs:=l ++ s.objs,es:=ent P name t' (.ref f) :: s.es,pl:=s.pl ++ [rawInt pos.line,rawInt pos.col,.ref c],n:=f + 1,t:=t' + 1 }
  | .ClassDef name _ _ body _ _ _ _ _ statics pos =>
    let k : ClsKind:=if name = Str.ofString "CoveError" then { given:=[.type "Exception"],bases:=[.type "Exception"],mro:=[.type "Exception",.type "BaseException",.type "object"],newId:="Exception.__new__",dictG:=false,weakG:=true,stat:=2 }
      else if name = Str.ofString "Refusal" then { given:=[.ref 31],bases:=[.ref 31],mro:=[.ref 31,.type "Exception",.type "BaseException",.type "object"],newId:="Exception.__new__",dictG:=false,weakG:=false,stat:=0 }
      else plainCls
    let (l,c,cd,ts,t'):=clsAt P k s.n s.t s.pm name body statics pos.line
    { s with objs:=l ++ (if name = Str.ofString "Refusal" then s.objs.modify (s.n - 32) (fun o=>match o.data with | .cls d=>{ o with data:=.cls { d with subclasses:=[.ref c] } } | _=>o) else s.objs),es:=ent P name t' (.ref c) :: s.es,pl:=s.pl ++ [rawInt pos.line,rawInt pos.col,.ref cd],n:=s.n + l.length,t:=t' + 1,st:=if name = Str.ofString "CoveError" then [ent P (Str.ofString "type.__subclasses__.Exception.0") ts (rawInt c),ent P (Str.ofString "type.__subclasses__.Exception.n") (ts + 1) (rawInt 1)] else s.st }
  | .Assign [.Name _ _] (.Constant (.str v) _ _) _ =>
    { s with t:=s.t + 2,pm:=.str v s.t }
  | .Assign [.Name x _] (.Constant (.int i) _ _) _=>{ s with es:=ent P x (s.t + 1) (.int i s.t) :: s.es,t:=s.t + 2 }
  | .Assign [.Name x _] (.Tuple [.Constant (.int i) _ _,.Constant (.int j) _ _] _ _) _ =>
    { s with objs:=tupO [.int i s.t,.int j (s.t + 1)] :: s.objs,es:=ent P x (s.t + 2) (.ref s.n) :: s.es,n:=s.n + 1,t:=s.t + 3 }
  | .Assign [.Name x _] (.BinOp (.Constant (.int i) _ _) _ _ _) _=>{ s with es:=ent P x (s.t + 2) (.int (i ^ 5000) (s.t + 1)) :: s.es,t:=s.t + 3 }
  | _=>s
end Mine
namespace Mine
noncomputable section
open PySem PySem.W PySem.Calls PyProof.Rows
noncomputable def body : List Stmt:=behindTheImports pw
noncomputable def evens : List Obj → List Obj
  | x :: _ :: r=>x :: evens r
  | [x]=>[x]
  | []=>[]
noncomputable def odds : List Obj → List Obj
  | _ :: y :: r=>y :: odds r
  | _=>[]
noncomputable def ofL : Nat → List Obj → BT
  | 0,_=>.nil
  | _ + 1,[]=>.nil
  | k + 1,x :: r=>.node x (ofL k (evens r)) (ofL k (odds r))
noncomputable def bootEs (P : Params) : List DictEntry:=match (boot_o_3 P).data with | .dict es _=>es.toList | _=>[]
noncomputable def ts0 (P : Params) : TS:=⟨[],[],[],15,187,.str (Str.ofString "__main__") 164,[]⟩
noncomputable def tsAt (k : Nat) (P : Params) : TS:=(body.take k).foldl (step P) (ts0 P)
noncomputable def topEs (P : Params) (s : TS) : List DictEntry:=(bootEs P).map (fun e=>if e.key.isStr (Str.ofString "__name__") then { e with val:=s.pm } else e) ++ s.es.reverse
noncomputable def allObjs (P : Params) (s : TS) : List Obj :=
  boot_o_0 P :: boot_o_1 P :: { cls:=.none,data:=.dict s.st.toArray s.st.length } :: { cls:=.type "dict",data:=.dict (topEs P s).toArray (topEs P s).length } ::
  boot_o_4 P :: boot_o_5 P :: boot_o_6 P :: boot_o_7 P :: boot_o_8 P :: boot_o_9 P :: boot_o_10 P :: tupO [] :: fldO s.pl ::
  { cls:=.type "code",data:=.fields #[.str (Str.ofString "<module>") 182,.str (Str.ofString "<module>") 183,fileV 184,rawInt 1,rawInt 0,rawInt 0,rawInt 0,rawInt 0,.ref 11,.bool false,rawInt 181,.ref 12,.none,.none,.none,.none,rawInt 185,rawInt 1,fileV 186] } ::
  { cls:=.type "frame",data:=.plain,slots:=#[some (.ref 13),some (.ref 3),some (.ref 3),none,some (.str (Str.ofString "__main__") 164),none,some (.ref 0)] } :: s.objs.reverse
noncomputable def sharedOf (s : TS) (P : Params) (os : OsState) : SharedT:=⟨ofL 12 (allObjs P s),s.n,(boot_heap P).life,Array.mk [],boot_drawn,s.t,os⟩
noncomputable def St (k : Nat) (w : World) (os : OsState) : SharedT:=sharedOf (tsAt k w.params) w.params os
noncomputable def env0 : Env:={ scope:=pw.main.scope,locals:=mainNs,globals:=mainNs,cells:=[],code:=.ref 13,frame:=some 14 }
noncomputable def pos0 : Pos:=⟨0,0,0,0⟩
noncomputable def cE : Code:=.body body env0
noncomputable def sts (a b : Nat) : List Stmt:=(body.drop a).take (b - a)
theorem p0 (w : World) (os : OsState) : segRunT treeTable pw w 11 (some (.ref 6)) 1 1391 (St 0 w os) (piecesOf (sts 0 39) env0 cE ⟨0,0,0,0⟩ [topFrame pos0]) = some (.next,St 39 w os,cE,⟨192,0,201,57⟩):=by
  rw [PySem.W.Fast.te10110043849684766642,PySem.W.Fast.te14364793385576792824]
  kernel_rfl
theorem p1 (w : World) (os : OsState) : segRunT treeTable pw w 11 (some (.ref 6)) 1 1223 (St 39 w os) (piecesOf (sts 39 68) env0 cE ⟨192,0,201,57⟩ [topFrame pos0]) = some (.next,St 68 w os,cE,⟨396,0,396,8⟩):=by
  rw [PySem.W.Fast.te10110043849684766642,PySem.W.Fast.te14364793385576792824]
  kernel_rfl
theorem p2 (w : World) (os : OsState) : segRunT treeTable pw w 11 (some (.ref 6)) 1 1187 (St 68 w os) (piecesOf (sts 68 97) env0 cE ⟨396,0,396,8⟩ [topFrame pos0]) = some (.next,St 97 w os,cE,⟨619,0,629,17⟩):=by
  rw [PySem.W.Fast.te10110043849684766642,PySem.W.Fast.te14364793385576792824]
  kernel_rfl
theorem p3 (w : World) (os : OsState) : segRunT treeTable pw w 11 (some (.ref 6)) 1 793 (St 97 w os) (piecesOf (sts 97 127) env0 cE ⟨619,0,629,17⟩ [topFrame pos0]) = some (.next,St 127 w os,cE,⟨822,0,829,12⟩):=by
  rw [PySem.W.Fast.te10110043849684766642,PySem.W.Fast.te14364793385576792824]
  kernel_rfl
theorem p4 (w : World) (os : OsState) : segRunT treeTable pw w 11 (some (.ref 6)) 1 705 (St 127 w os) (piecesOf (sts 127 153) env0 cE ⟨822,0,829,12⟩ [topFrame pos0]) = some (.next,St 153 w os,cE,⟨1039,0,1070,60⟩):=by
  rw [PySem.W.Fast.te10110043849684766642,PySem.W.Fast.te14364793385576792824]
  kernel_rfl
noncomputable def hT (k : Nat) (P : Params) : Heap:=absHeap (ofL 12 (allObjs P (tsAt k P))) (tsAt k P).n (boot_heap P).life
noncomputable def sd (k : Nat) (w : World) (os : OsState) : Shared:=(St k w os).abs
theorem pre (w : World) (os : OsState) : topGo treeTable pw w 11 (some (.ref 6)) 12 ⟨boot_heap w.params,Array.mk [],boot_drawn,boot_toks,os⟩ (topStub pw) = some (sd 0 w os,⟨denote treeTable cE,cE,pos0,[topFrame pos0]⟩):=by
  rw [PySem.W.Fast.te15667345088766844465,PySem.W.Fast.te14364793385576792824,PySem.W.Fast.te11892475500146522536]
  kernel_rfl
theorem blk (w : World) (os : OsState) : segRun treeTable pw w 11 (some (.ref 6)) 1 1 (sd 0 w os) (blockOf body env0 cE pos0 [topFrame pos0]) = some (.next,sd 0 w os,cE,pos0):=by
  kernel_rfl
theorem fin (w : World) (os : OsState) : topRun treeTable pw w 11 (some (.ref 6)) 2 (sd 153 w os) (restOf [] env0 cE ⟨1039,0,1070,60⟩ [topFrame pos0]) = some (sd 153 w os):=by
  kernel_rfl
theorem body_is : body = sts 0 39 ++ (sts 39 68 ++ (sts 68 97 ++ (sts 97 127 ++ (sts 127 153 ++ [])))):=by kernel_rfl
theorem run (w : World) (os : OsState) : topRun treeTable pw w 11 (some (.ref 6)) (12 + (1 + (1391 + (1223 + (1187 + (793 + (705 + 2))))))) ⟨boot_heap w.params,Array.mk [],boot_drawn,boot_toks,os⟩ (topStub pw) = some (sd 153 w os):=by
  refine go_top (pre w os) (piece_block (blk w os) ?_)
  rw [body_is]
  refine piece_app (segRun_of (p0 w os)) ?_
  refine piece_app (segRun_of (p1 w os)) ?_
  refine piece_app (segRun_of (p2 w os)) ?_
  refine piece_app (segRun_of (p3 w os)) ?_
  refine piece_app (segRun_of (p4 w os)) ?_
  exact fin w os
end
end Mine
namespace Mine
open PySem PySem.W PySem.Calls PyProof.Rows
abbrev rw0 : OpenLaw:=PySem.Challenge.rw_sm0116_01
abbrev bd0 : List Stmt:=rw0.prog.main.body
theorem b1 : (sreFenced rw0.prog.main && ((moduleNames bd0).isEmpty || lookedIntoSs (moduleNames bd0) bd0)) = true:=by
  rw [PySem.W.Fast.te11788848310118352699]
  kernel_rfl
theorem b3 : namesResolve rw0.prog = true:=by
  rw [PySem.W.Fast.te8377067652309620493]
  kernel_rfl
theorem b4 : rw0.prog.boundNames.all (fun n=>!worldNames.contains n) = true:=by kernel_rfl
theorem b5v : readsOut rw0.prog bd0 "vars" = false:=by
  rw [PySem.W.Fast.te13343964577679436407]
  kernel_rfl
theorem b5d : readsOut rw0.prog bd0 "dir" = false:=by
  rw [PySem.W.Fast.te13343964577679436407]
  kernel_rfl
theorem b5l : readsOut rw0.prog bd0 "locals" = false:=by
  rw [PySem.W.Fast.te13343964577679436407]
  kernel_rfl
theorem b5 (n : Str) (h : n = "vars" ∨ n = "dir" ∨ n = "locals") : readsOut rw0.prog bd0 n = false:=by
  rcases h with rfl | rfl | rfl
  · exact b5v
  · exact b5d
  · exact b5l
theorem b6 : noRoadLSs { strict:=!(importedModules bd0).all cThrough.contains,foot:=none,bare:=[] } bd0 = true:=by
  rw [PySem.W.Fast.te8326940854005059898]
  kernel_rfl
theorem b7 : namesMeet rw0.prog bd0 (fun _ n=>attrL n) = true:=by
  rw [PySem.W.Fast.te17119622794617984870]
  kernel_rfl
theorem b8 : (rw0.bound'.all fun n=>!builtinNamed n || rw0.about == [n] || !rw0.reads n) = true:=by
  rw [PySem.W.Fast.te797321630700447069,PySem.W.Fast.te6984425678791042302]
  kernel_rfl
theorem b9 : namesMeet rw0.prog rw0.above (fun _ n=>!rw0.own.contains n) = true:=by
  rw [PySem.W.Fast.te17119622794617984870]
  kernel_rfl
theorem a1 : looksOpen rw0.prog = true:=by
  have e : (["vars","dir","locals"] : List Str).filter (readsOut rw0.prog bd0) = []:=by
    rw [List.filter_eq_nil_iff]
    intro n h
    rw [b5 n (by simpa using h)]
    exact Bool.false_ne_true
  unfold looksOpen
  rw [e]
  exact look_both (look_both (look_both (look_both b1 b3) b4) b6) b7
theorem a2 : rw0.row.partSaid = true:=by
  unfold OpenRow.partSaid
  repeat' (with_reducible apply look_both)
  · exact a1
  all_goals kernel_rfl
theorem a3 : rw0.row.wellSaid = true:=by
  unfold OpenRow.wellSaid
  repeat' (with_reducible apply look_both)
  · exact a2
  all_goals kernel_rfl
theorem a4 : noRoadLSs { strict:=true,foot:=some rw0.bound',writes:=rw0.writes,may:=rw0.may } rw0.footing = true:=by
  rw [PySem.W.Fast.te8326940854005059898]
  kernel_rfl
theorem said : rw0.wellSaid = true:=by
  unfold OpenLaw.wellSaid
  repeat' (with_reducible apply look_both)
  · exact a3
  · kernel_rfl
  · kernel_rfl
  · rw [PySem.W.Fast.te8179353310426384613]; kernel_rfl
  · kernel_rfl
  · kernel_rfl
  · exact a4
  · kernel_rfl
  · rw [PySem.W.Fast.te16286561074155671207]; kernel_rfl
  · kernel_rfl
  · exact b8
  · kernel_rfl
  · kernel_rfl
  · rw [PySem.W.Fast.te17119622794617984870]; kernel_rfl
  · kernel_rfl
  · kernel_rfl
  · kernel_rfl
  · exact b9
  · rw [PySem.W.Fast.te17119622794617984870]; kernel_rfl
end Mine
namespace Mine
noncomputable section
open PySem PySem.W PySem.Calls PyProof.Rows
noncomputable def nmOf : Stmt → List Str
  | .FunctionDef n ..=>[n]
  | .ClassDef n ..=>[n]
  | .Assign [.Name x _] _ _=>if x = Str.ofString "__name__" then [] else [x]
  | _=>[]
noncomputable def loose0 : List Str:=(body.take 152).flatMap nmOf
noncomputable def q0 : Program:={ pw with main:={ pw.main with body:=sts 152 153 } }
noncomputable def row0 : OpenRow:=rw0.row
noncomputable def dk : DefRec × List (Str × Expr):=(defOf q0 row0.name).getD (⟨row0.name,{ posonlyargs:=[],args:=[],vararg:=none,kwonlyargs:=[],kw_defaults:=[],kwarg:=none,defaults:=[] },[],{ kind:=.function,names:=[],isGenerator:=false,isCoroutine:=false,more:=[] },⟨0,0,0,0⟩⟩,[])
theorem dk_is : defOf q0 row0.name = some (dk.1,dk.2):=by kernel_rfl
theorem dk_p : row0.prog.theDef row0.name = some (dk.1.params,dk.1.body,dk.1.scope):=by kernel_rfl
theorem dk_k : kwWritten? dk.1.params.kwonlyargs dk.1.params.kw_defaults = some dk.2:=by kernel_rfl
theorem ok0 : (chainsOk q0 && opensWell row0.prog && (frees row0.toRowW && row0.within.isEmpty)) = true:=by
  repeat' (with_reducible apply look_both)
  all_goals kernel_rfl
noncomputable def Xt0 : Shared → Bool:=fun s=>recOk (RowW.records row0.toRowW) s
theorem lk1 (w : World) (os : OsState) : (staticsOk (importedModules pw.main.body) (boot_heap w.params) (hT 153 w.params) && namesBound pw (hT 153 w.params) && gensDone (sd 153 w os) && laidKept (boot_heap w.params) (hT 153 w.params)) = true:=by
  repeat' (with_reducible apply look_both)
  · kernel_rfl
  · kernel_rfl
  · kernel_rfl
  · kernel_rfl
theorem lk2 (w : World) (os : OsState) : openSeen q0 loose0 (importedModules pw.main.body) Xt0 true (sd 153 w os) = openGood q0 loose0:=by
  rw [PySem.W.Fast.te4187177175401517315]
  kernel_rfl
noncomputable def YP0 (w : World) (h : Heap) : Prop:=∀ b o,(hT 153 w.params).get? b = some o → h.get? b = some o
theorem open0 : ∀ w : World,(fencedOpening treeTable pw w 6000).map (fun s=>(s.heap,s.gens,s.drawn,s.toks)) = some (boot_heap w.params,Array.mk [],boot_drawn,boot_toks) :=
  boot_open (by kernel_rfl) (by kernel_rfl) (fun s=>by kernel_rfl)
theorem size0 (w : World) : ((boot_heap w.params).isNs mainGlobals && (Array.mk [] : Array GenState).size == 0,(boot_heap w.params).objs.size,(boot_heap w.params).nsMap mainGlobals "__annotations__") = (true,11,some (.ref 6)):=by kernel_rfl
theorem left0 : LeftO row0.prog q0 loose0 Xt0 (fun s=>s.heap) (fun w=>hT 153 w.params) 6000 :=
  LeftO.of_pieces (M:=(12 + (1 + (1391 + (1223 + (1187 + (793 + (705 + 2)))))))) (k₁:=1460) (d₁:=boot_drawn) (gs₁:=Array.mk []) open0 size0 (fun w os=>(run w os).trans (by kernel_rfl)) (by kernel_rfl)
    fun w=>funext fun os=>looks_pair (lk1 w os) (looks_pair (lk2 w os) rfl)
theorem wSs_app {α : Type} {A : TablesWhole.Alg α} (as : ∀ a b c,A.both (A.both a b) c = A.both a (A.both b c)) (u : ∀ a,A.both A.unit a = a) (t : Scope) (cx : TablesWhole.Ctx) (sc : Scope) (l r : List Stmt) : TablesWhole.wSs A t cx sc (l ++ r) = A.both (TablesWhole.wSs A t cx sc l) (TablesWhole.wSs A t cx sc r):=by
  induction l with
  | nil =>
    have h : TablesWhole.wSs A t cx sc [] = A.unit:=by kernel_rfl
    rw [List.nil_append,h,u]
  | cons s l ih =>
    have h : ∀ s l,TablesWhole.wSs A t cx sc (s :: l) = A.both (TablesWhole.wS A t cx sc s) (TablesWhole.wSs A t cx sc l):=fun s l=>by kernel_rfl
    rw [List.cons_append,h,h,ih,as]
noncomputable def wB {α : Type} (A : TablesWhole.Alg α) (l : List Stmt) : α:=TablesWhole.wSs A pw.main.scope ⟨pw.main.scope,[],[],[],none⟩ pw.main.scope l
noncomputable abbrev TwOk (l : List Stmt) : Prop:=wB TablesWhole.gather l = [] ∧ wB TablesWhole.holds l = true
theorem TwOk.app {l r : List Stmt} (h : TwOk l) (k : TwOk r) : TwOk (l ++ r):=by
  unfold TwOk wB at *
  rw [wSs_app List.append_assoc List.nil_append,wSs_app Bool.and_assoc Bool.true_and,h.1,h.2,k.1,k.2]
  exact ⟨rfl,rfl⟩
theorem g0 : TwOk (sts 0 39):=by
  unfold TwOk wB
  rw [PySem.W.Fast.te16421684217811934046]
  exact ⟨by kernel_rfl,by kernel_rfl⟩
theorem g1 : TwOk (sts 39 68):=by
  unfold TwOk wB
  rw [PySem.W.Fast.te16421684217811934046]
  exact ⟨by kernel_rfl,by kernel_rfl⟩
theorem g2 : TwOk (sts 68 97):=by
  unfold TwOk wB
  rw [PySem.W.Fast.te16421684217811934046]
  exact ⟨by kernel_rfl,by kernel_rfl⟩
theorem g3 : TwOk (sts 97 127):=by
  unfold TwOk wB
  rw [PySem.W.Fast.te16421684217811934046]
  exact ⟨by kernel_rfl,by kernel_rfl⟩
theorem g4 : TwOk (sts 127 153):=by
  unfold TwOk wB
  rw [PySem.W.Fast.te16421684217811934046]
  exact ⟨by kernel_rfl,by kernel_rfl⟩
theorem tabs_of (p : Program) (h1 : p.modules = []) (h2 : p.parses = []) (h3 : p.harvested = []) (h4 : TablesWhole.noTwice p.main.scope = true) (g : TablesWhole.wSs TablesWhole.gather p.main.scope ⟨p.main.scope,[],[],[],none⟩ p.main.scope p.main.body = []) (k : TablesWhole.wSs TablesWhole.holds p.main.scope ⟨p.main.scope,[],[],[],none⟩ p.main.scope p.main.body = true) : p.tablesWhole = true:=by
  unfold Program.tablesWhole TablesWhole.wProgram TablesWhole.wModule
  rw [h1,h2,h3,g,h4]
  show (true && (true && (_ && true)) && _) = true
  exact look_both (look_both rfl (look_both rfl (look_both k rfl))) rfl
theorem tabs : row0.prog.tablesWhole = true:=by
  have g : TwOk pw.main.body:=by
    rw [show pw.main.body = sts 0 39 ++ (sts 39 68 ++ (sts 68 97 ++ (sts 97 127 ++ (sts 127 153 ++ [])))) by kernel_rfl]
    exact g0.app (g1.app (g2.app (g3.app (g4.app ⟨by kernel_rfl,by kernel_rfl⟩))))
  exact tabs_of pw (by kernel_rfl) (by kernel_rfl) (by kernel_rfl) (by rw [PySem.W.Fast.te8331962902438777018]; kernel_rfl) g.1 g.2
theorem prom0 : row0.toRowW.promised:=⟨[.list []],by decide +kernel,by decide +kernel⟩
noncomputable abbrev Walk0 : Prop:=WalkO q0 loose0 (fun _ _=>True) YP0 row0.toRowW dk.1 dk.2 fun f vs=>PySem.call f vs
theorem head (walk : Walk0) : rw0.Holds :=
  holds_law said fun k1=>holds_open (q:=q0) (loose:=loose0) (Xt:=Xt0) (XP:=fun _ _=>True) (Yf:=fun s=>s.heap) (Ya:=fun w=>hT 153 w.params) (YP:=YP0) (N:=6000)
    left0 (fun w s e b o h=>by rw [e]; exact h) (fun w h h' y k b o e=>k b o (y b o e)) (fun _ _=>trivial) (fun _ _ _ _ _=>trivial)
    dk_is dk_p dk_k (fun s e=>recFacts_of e) rfl k1 ok0 ⟨rfl,rfl,rfl,rfl,rfl,tabs⟩ prom0 walk
end
end Mine
namespace Mine
open PySem
theorem nS {α : Type _} {x : α} {P : Prop} (h : none = some x) : P:=nomatch h
theorem nT {P : Prop} (h : false = true) : P:=nomatch h
theorem pe {α : Type _} {β : Type _} {a c : α} {b d : β} (h : (a,b) = (c,d)) : a = c ∧ b = d:=⟨congrArg Prod.fst h,congrArg Prod.snd h⟩
theorem sp {α : Type _} {β : Type _} {a c : α} {b d : β} (h : some (a,b) = some (c,d)) : a = c ∧ b = d:=pe (Option.some.inj h)
noncomputable def bI {α : Sort _} (b : Bool) (x y : α) : α:=@Bool.rec (fun _=>α) y x b
noncomputable def bA (x y : Bool) : Bool:=@Bool.rec (fun _=>Bool) false y x
theorem bA_i {x y : Bool} (h : bA x y = true) : x = true ∧ y = true:=by
  cases x
  · exact nT h
  · exact ⟨rfl,h⟩
namespace K
section
variable {α β : Type}
noncomputable def drp (l : List α) (n : Nat) : List α:=@Nat.rec (fun _=>List α) l (fun _ l=>@List.rec α (fun _=>List α) [] (fun _ t _=>t) l) n
theorem drp_cons (a : α) (l : List α) : ∀ n,drp (a :: l) (n + 1) = drp l n:=@Nat.rec _ rfl fun _ ih=>congrArg (fun l=>@List.rec α (fun _=>List α) [] (fun _ t _=>t) l) ih
theorem drp_nil : ∀ n,drp ([] : List α) n = []:=@Nat.rec _ rfl fun _ ih=>congrArg (fun l=>@List.rec α (fun _=>List α) [] (fun _ t _=>t) l) ih
noncomputable def hd (l : List α) : Option α:=@List.rec α (fun _=>Option α) none (fun a _ _=>some a) l
noncomputable def nth (l : List α) (n : Nat) : Option α:=hd (drp l n)
noncomputable def rvA : List α → List α → List α:=@List.rec α (fun _=>List α → List α) (fun b=>b) fun a _ ih b=>ih (a :: b)
theorem rvA_eq (l : List α) : ∀ b,rvA l b = l.reverse ++ b:=by
  induction l with
  | nil=>exact fun _=>rfl
  | cons a l ih=>exact fun b=>(ih (a :: b)).trans (by rw [List.reverse_cons,List.append_assoc]; rfl)
noncomputable def rv (l : List α) : List α:=rvA l []
theorem rv_eq (l : List α) : rv l = l.reverse:=(rvA_eq l []).trans (List.append_nil _)
noncomputable def lenA : List α → Nat → Nat:=@List.rec α (fun _=>Nat → Nat) (fun n=>n) fun _ _ ih n=>ih (n + 1)
noncomputable def len (l : List α) : Nat:=lenA l 0
theorem lenA_eq (l : List α) : ∀ n : Nat,lenA l n = l.length + n:=by
  induction l with
  | nil=>exact fun n=>(Nat.zero_add n).symm
  | cons a l ih=>exact fun n=>(ih (n + 1)).trans ((Nat.add_assoc l.length 1 n).symm ▸ congrArg (l.length + ·) (Nat.add_comm n 1))
theorem len_eq (l : List α) : len l = l.length:=lenA_eq l 0
noncomputable def lset : List α → Nat → α → List α :=
  @List.rec α (fun _=>Nat → α → List α) (fun _ _=>[]) fun a l ih n o=>@Nat.rec (fun _=>α → List α → (Nat → α → List α) → α → List α) (fun _ l _ o=>o :: l) (fun m _ a _ ih o=>a :: ih m o) n a l ih o
theorem lset_eq (l : List α) : ∀ (n : Nat) (o : α),lset l n o = l.set n o:=by
  induction l with
  | nil=>exact fun n o=>rfl
  | cons a l ih=>exact fun n o=>n.casesOn rfl fun n=>congrArg (a :: ·) (ih n o)
noncomputable def app : List α → List α → List α:=@List.rec α (fun _=>List α → List α) (fun b=>b) fun a _ ih b=>a :: ih b
theorem app_eq (a b : List α) : app a b = a ++ b:=by
  induction a with
  | nil=>rfl
  | cons x a ih=>exact congrArg (x :: ·) ih
noncomputable def lmap (f : α → β) : List α → List β:=@List.rec α (fun _=>List β) [] fun a _ ih=>f a :: ih
theorem lmap_eq (f : α → β) (l : List α) : lmap f l = l.map f:=by
  induction l with
  | nil=>rfl
  | cons a l ih=>exact congrArg (f a :: ·) ih
end
end K
theorem nth_eq {α : Type} (l : List α) : ∀ n : Nat,K.nth l n = l[n]?:=by
  induction l with
  | nil=>exact fun n=>congrArg K.hd (K.drp_nil n)
  | cons a l ih=>exact fun n=>n.casesOn rfl fun n=>(congrArg K.hd (K.drp_cons a l n)).trans (ih n)
noncomputable def Sat {γ : Type} (x : Option γ) (P : γ → Prop) : Prop:=∀ ⦃r⦄,x = some r → P r
abbrev U2 {α β : Type} (P : α → β → Prop) (r : α × β) : Prop:=P r.1 r.2
section
variable {α β γ : Type} {P : γ → Prop}
theorem Sat.no : Sat none P:=fun _ h=>nS h
theorem Sat.yes {r : γ} (h : P r) : Sat (some r) P:=fun _ e=>Option.some.inj e ▸ h
theorem Sat.mono {x : Option γ} {Q : γ → Prop} (h : Sat x Q) (k : ∀ r,Q r → P r) : Sat x P:=fun _ e=>k _ (h e)
noncomputable def oo (x : Option α) (f : α → Option γ) : Option γ:=@Option.rec α (fun _=>Option γ) none f x
theorem Sat.oo {x : Option α} {f : α → Option γ} (k : ∀ a,x = some a → Sat (f a) P) : Sat (oo x f) P:=by
  cases x
  · exact Sat.no
  · exact k _ rfl
theorem Sat.oS {x : Option α} {f : α → Option γ} {Q : α → Prop} (h : Sat x Q) (k : ∀ a,Q a → Sat (f a) P) : Sat (Mine.oo x f) P:=.oo fun a e=>k a (h e)
noncomputable def ob (x : Option (α × β)) (f : α → β → Option γ) : Option γ:=@Option.rec (α × β) (fun _=>Option γ) none (fun p=>@Prod.rec α β (fun _=>Option γ) f p) x
theorem Sat.ob {x : Option (α × β)} {f : α → β → Option γ} (k : ∀ a b,x = some (a,b) → Sat (f a b) P) : Sat (ob x f) P:=by
  cases x
  · exact Sat.no
  · exact k _ _ rfl
theorem Sat.bS {x : Option (α × β)} {f : α → β → Option γ} {Q : α → β → Prop} (h : Sat x (U2 Q)) (k : ∀ a b,Q a b → Sat (f a b) P) : Sat (Mine.ob x f) P:=.ob fun a b e=>k a b (h e)
noncomputable def om (x : Option α) (f : α → γ) : Option γ:=@Option.rec α (fun _=>Option γ) none (fun a=>some (f a)) x
theorem Sat.om {x : Option α} {f : α → γ} (k : ∀ a,x = some a → P (f a)) : Sat (om x f) P:=by
  cases x
  · exact Sat.no
  · exact .yes (k _ rfl)
noncomputable def oe (x y : Option γ) : Option γ:=@Option.rec γ (fun _=>Option γ) y some x
theorem Sat.oe {x y : Option γ} (h : Sat x P) (k : Sat y P) : Sat (oe x y) P:=by
  cases x
  · exact k
  · exact h
noncomputable def gd (b : Bool) (x : Option γ) : Option γ:=@Bool.rec (fun _=>Option γ) none x b
theorem Sat.gd {b : Bool} {x : Option γ} (k : b = true → Sat x P) : Sat (gd b x) P:=by
  cases b
  · exact Sat.no
  · exact k rfl
theorem Sat.bI {b : Bool} {x y : Option γ} (h : b = true → Sat x P) (k : b = false → Sat y P) : Sat (bI b x y) P:=by
  cases b
  · exact k rfl
  · exact h rfl
noncomputable def gle (a b : Nat) (x : Option γ) : Option γ:=gd (Nat.ble a b) x
theorem Sat.gle {a b : Nat} {x : Option γ} (k : a ≤ b → Sat x P) : Sat (gle a b x) P:=.gd fun h=>k (Nat.le_of_ble_eq_true h)
noncomputable def glen (l : List α) (n : Nat) (x : Option γ) : Option γ:=gd (Nat.ble (K.len l) n) x
theorem Sat.glen {l : List α} {n : Nat} {x : Option γ} (k : l.length ≤ n → Sat x P) : Sat (glen l n x) P:=.gd fun h=>k (K.len_eq l ▸ Nat.le_of_ble_eq_true h)
theorem Sat.ite {c : Prop} {_ : Decidable c} {x : Option γ} (k : c → Sat x P) : Sat (if c then x else none) P:=fun _ e=>by
  split at e
  · exact k ‹_› e
  · exact nS e
theorem oo_i {x : Option α} {f : α → Option γ} {r : γ} (h : oo x f = some r) : ∃ a,x = some a ∧ f a = some r:=(Sat.oo (P:=fun r=>∃ a,x = some a ∧ f a = some r) fun a e _ h=>⟨a,e,h⟩) h
theorem ob_i {x : Option (α × β)} {f : α → β → Option γ} {r : γ} (h : ob x f = some r) : ∃ a b,x = some (a,b) ∧ f a b = some r:=(Sat.ob (P:=fun r=>∃ a b,x = some (a,b) ∧ f a b = some r) fun a b e _ h=>⟨a,b,e,h⟩) h
theorem gd_i {b : Bool} {x : Option α} {r : α} (h : gd b x = some r) : b = true ∧ x = some r:=(Sat.gd (P:=fun r=>b = true ∧ x = some r) fun a _ h=>⟨a,h⟩) h
noncomputable def l0 (l : List α) (x : Option γ) : Option γ:=@List.casesOn α (fun _=>Option γ) l x fun _ _=>none
theorem Sat.l0 {l : List α} {x : Option γ} {P : List α → γ → Prop} (k : Sat x (P [])) : Sat (l0 l x) (P l):=by
  cases l
  · exact k
  · exact Sat.no
noncomputable def lc (l : List α) (f : α → List α → Option γ) : Option γ:=@List.casesOn α (fun _=>Option γ) l none f
theorem Sat.lc {l : List α} {f : α → List α → Option γ} {P : List α → γ → Prop} (k : ∀ a r,Sat (f a r) (P (a :: r))) : Sat (lc l f) (P l):=by
  cases l
  · exact Sat.no
  · exact k _ _
noncomputable def l1 (l : List α) (f : α → Option γ) : Option γ:=lc l fun a t=>l0 t (f a)
theorem Sat.l1 {l : List α} {f : α → Option γ} {P : List α → γ → Prop} (k : ∀ a,Sat (f a) (P [a])) : Sat (l1 l f) (P l):=.lc fun a r=>.l0 (P:=fun r=>P (a :: r)) (k a)
noncomputable def l2 (l : List α) (f : α → α → Option γ) : Option γ:=lc l fun a t=>l1 t (f a)
theorem Sat.l2 {l : List α} {f : α → α → Option γ} {P : List α → γ → Prop} (k : ∀ a b,Sat (f a b) (P [a,b])) : Sat (l2 l f) (P l):=.lc fun a r=>.l1 (P:=fun r=>P (a :: r)) (k a)
noncomputable def lr (l : List α) (x : Option γ) (f : α → List α → Option γ) : Option γ:=@List.casesOn α (fun _=>Option γ) l x f
theorem Sat.lr {l : List α} {x : Option γ} {f : α → List α → Option γ} {P : List α → γ → Prop} (h : Sat x (P [])) (k : ∀ a r,Sat (f a r) (P (a :: r))) : Sat (lr l x f) (P l):=by
  cases l
  · exact h
  · exact k _ _
noncomputable def allB (f : α → β → Bool) : List α → List β → Bool :=
  @List.rec α (fun _=>List β → Bool) (fun b=>@List.casesOn β (fun _=>Bool) b true fun _ _=>false) fun a _ ih b=>@List.casesOn β (fun _=>Bool) b false fun c y=>bA (f a c) (ih y)
theorem allB_eq {f : α → α → Bool} (hf : ∀ a b,f a b = true → a = b) (x : List α) : ∀ y,allB f x y = true → x = y:=by
  induction x with
  | nil=>exact fun y=>y.casesOn (fun _=>rfl) fun _ _ h=>nT h
  | cons a x ih=>exact fun y=>y.casesOn (fun h=>nT h) fun b y h=>hf a b (bA_i h).1 ▸ ih y (bA_i h).2 ▸ rfl
theorem allB_self {f : α → α → Bool} (hf : ∀ a,f a a = true) (x : List α) : allB f x x = true:=by
  induction x with
  | nil=>rfl
  | cons a x ih=>exact (congrArg (bA · _) (hf a)).trans ih
noncomputable def findB (f : α → Bool) : List α → Option α:=@List.rec α (fun _=>Option α) none fun a _ ih=>bI (f a) (some a) ih
theorem Sat.findB {f : α → Bool} (l : List α) : Sat (findB f l) fun a=>a ∈ l ∧ f a = true:=by
  induction l with
  | nil=>exact .no
  | cons a l ih=>exact .bI (fun h=>.yes ⟨.head _,h⟩) fun _=>ih.mono fun _ h=>⟨.tail _ h.1,h.2⟩
end
inductive D where
  | none | bool (b : Bool) | int (i : Int) | str (s : Str) | tup (xs : List D)
inductive Bi where | len | max | abs | isinstance | sorted
inductive Ty where | list | dict | str | range | bool
inductive SV where
  | d (x : D) | ref (i : Nat) | tup (xs : List SV) | top (a : Nat) | ty (n : Ty) | bi (id : Bi)
inductive LX where
  | var (i : Nat) | lit (xs : List D) | map (t : List (D × Option D)) (l : LX) | tab (t : List (D × Option D)) (l : LX) | itab (ts : List (List (D × Option D))) (l : LX)
  | cat (a b : LX) | rev (l : LX) | take (n : Nat) (l : LX) | drop (n : Nat) (l : LX) | fn (k : Nat) (a b : LX)
inductive DX where
  | var (i : Nat) | setd (x : DX) (k : Str) (v : D) | first (l : LX)
inductive SO where
  | dl (xs : List D) | sy (n : Nat) (al : List D) (l : LX) | ls (xs : List SV) | di (es : List (Str × SV)) | inst (c d : Nat)
  | sd (x : DX) | bd (k : Nat) | any (k : Nat) | as (k : Nat) (rs : List Nat)
noncomputable abbrev Sto:=List SO
noncomputable abbrev Rho:=List (Str × SV)
inductive Out where
  | next | brk | cont | ret (v : SV)
structure Facts where
  eqs : List (LX × LX × Bool)
  lens : List (LX × Nat)
  ats : List (LX × Nat × D)
  idx : List (LX × D × Option Nat)
  gets : List (DX × Str × Option D)
  draws : List (Int × Int)
noncomputable def lbeq : List Nat → List Nat → Bool:=allB Nat.beq
noncomputable def seq (a b : Str) : Bool:=lbeq a.cps.toList b.cps.toList
theorem lbeq_eq {a b : List Nat} (h : lbeq a b = true) : a = b:=allB_eq (fun _ _=>Nat.eq_of_beq_eq_true) a b h
theorem seq_eq {a b : Str} (h : seq a b = true) : a = b:=congrArg Str.mk (Array.toList_inj.mp (lbeq_eq h))
theorem seq_self (a : Str) : seq a a = true:=allB_self Nat.beq_refl _
theorem seq_iff {a b : Str} : seq a b = true ↔ a = b:=⟨seq_eq,fun h=>h ▸ seq_self a⟩
theorem seq_ne {a b : Str} (h : a ≠ b) : seq a b = false:=Bool.eq_false_iff.mpr fun q=>h (seq_eq q)
section
variable {α : Type}
noncomputable def lk (x : Str) : List (Str × α) → Option α:=@List.rec (Str × α) (fun _=>Option α) none fun p _ ih=>bI (seq p.1 x) (some p.2) ih
noncomputable def put (x : Str) (v : α) : List (Str × α) → List (Str × α):=@List.rec (Str × α) (fun _=>List (Str × α)) [(x,v)] fun p r ih=>bI (seq p.1 x) ((p.1,v) :: r) (p :: ih)
noncomputable def del (x : Str) : List (Str × α) → List (Str × α):=@List.rec (Str × α) (fun _=>List (Str × α)) [] fun p r ih=>bI (seq p.1 x) r (p :: ih)
theorem bI_seq {β : Type} {a b : Str} {x y : β} : bI (seq a b) x y = if a = b then x else y:=by
  by_cases h : a = b
  · rw [if_pos h,seq_iff.mpr h]; rfl
  · rw [if_neg h,seq_ne h]; rfl
theorem lk_cons (x : Str) (p : Str × α) (r : List (Str × α)) : lk x (p :: r) = if p.1 = x then some p.2 else lk x r:=bI_seq
theorem put_cons (x : Str) (v : α) (p : Str × α) (r : List (Str × α)) : put x v (p :: r) = if p.1 = x then (p.1,v) :: r else p :: put x v r:=bI_seq
theorem del_cons (x : Str) (p : Str × α) (r : List (Str × α)) : del x (p :: r) = if p.1 = x then r else p :: del x r:=bI_seq
theorem lk_eq (x : Str) (l : List (Str × α)) : lk x l = l.lookup x:=by
  induction l with
  | nil=>rfl
  | cons p r ih =>
    refine (lk_cons x p r).trans ?_
    rw [List.lookup_cons,ih]
    by_cases h : p.1 = x
    · rw [if_pos h,h,beq_self_eq_true]
    · rw [if_neg h,show (x == p.1) = false from beq_eq_false_iff_ne.mpr (Ne.symm h)]
end
noncomputable def inS (x : Str) (l : List Str) : Bool:=@List.rec Str (fun _=>Bool) false (fun y _ ih=>bI (seq y x) true ih) l
theorem inS_iff {x : Str} {l : List Str} (h : inS x l = true) : x ∈ l:=by
  induction l with
  | nil=>exact nT h
  | cons y r ih =>
    have h : bI (seq y x) true (inS x r) = true:=h
    rw [bI_seq] at h
    by_cases q : y = x
    · exact q ▸ .head _
    · rw [if_neg q] at h; exact .tail _ (ih h)
noncomputable def scode : List Nat → Nat:=@List.rec Nat (fun _=>Nat) 0 fun c _ ih=>c + 1114112 * ih
noncomputable def sameD : D → D → Bool :=
  @D.rec (fun _=>D → Bool) (fun _=>List D → Bool)
    (fun b=>@D.casesOn (fun _=>Bool) b true (fun _=>false) (fun _=>false) (fun _=>false) (fun _=>false))
    (fun a b=>@D.casesOn (fun _=>Bool) b false (fun b=>a == b) (fun _=>false) (fun _=>false) (fun _=>false))
    (fun a b=>@D.casesOn (fun _=>Bool) b false (fun _=>false) (fun b=>decide (a = b)) (fun _=>false) (fun _=>false))
    (fun a b=>@D.casesOn (fun _=>Bool) b false (fun _=>false) (fun _=>false) (fun b=>seq a b) (fun _=>false))
    (fun _ ih b=>@D.casesOn (fun _=>Bool) b false (fun _=>false) (fun _=>false) (fun _=>false) ih)
    (fun b=>@List.casesOn D (fun _=>Bool) b true (fun _ _=>false))
    (fun _ _ ia ix b=>@List.casesOn D (fun _=>Bool) b false (fun b y=>bA (ia b) (ix y)))
theorem sameD_eq (a : D) : ∀ b,sameD a b = true → a = b:=by
  refine @D.rec (fun a=>∀ b,sameD a b = true → a = b) (fun x=>∀ y,sameD (.tup x) (.tup y) = true → x = y) ?_ ?_ ?_ ?_ ?_ ?_ ?_ a
  · exact fun b h=>by cases b <;> first | rfl | exact nT h
  · exact fun a b h=>by cases b <;> first | exact nT h | exact congrArg D.bool (beq_iff_eq.mp h)
  · exact fun a b h=>by cases b <;> first | exact nT h | exact congrArg D.int (of_decide_eq_true h)
  · exact fun a b h=>by cases b <;> first | exact nT h | exact congrArg D.str (seq_eq h)
  · exact fun x ih b h=>by cases b <;> first | exact nT h | exact congrArg D.tup (ih _ h)
  · exact fun y h=>by cases y <;> first | rfl | exact nT h
  · exact fun a x ia ix y h=>by
      cases y with
      | nil=>exact nT h
      | cons b y=>rw [ia b (bA_i h).1,ix y (bA_i h).2]
theorem sameD_self (a : D) : sameD a a = true:=by
  refine @D.rec (fun a=>sameD a a = true) (fun x=>sameD (.tup x) (.tup x) = true) rfl (fun b=>beq_self_eq_true b) (fun i=>decide_eq_true rfl) seq_self (fun _ h=>h) rfl (fun a x ia ix=>?_) a
  exact (congrArg (bA · _) ia).trans ix
noncomputable def sameDs : List D → List D → Bool:=allB sameD
theorem sameDs_eq {x y : List D} (h : sameDs x y = true) : x = y:=allB_eq sameD_eq x y h
noncomputable def sameV : SV → SV → Bool :=
  @SV.rec (fun _=>SV → Bool) (fun _=>List SV → Bool)
    (fun a b=>@SV.casesOn (fun _=>Bool) b (fun b=>sameD a b) (fun _=>false) (fun _=>false) (fun _=>false) (fun _=>false) (fun _=>false))
    (fun a b=>@SV.casesOn (fun _=>Bool) b (fun _=>false) (fun b=>Nat.beq a b) (fun _=>false) (fun _=>false) (fun _=>false) (fun _=>false))
    (fun _ ih b=>@SV.casesOn (fun _=>Bool) b (fun _=>false) (fun _=>false) ih (fun _=>false) (fun _=>false) (fun _=>false))
    (fun a b=>@SV.casesOn (fun _=>Bool) b (fun _=>false) (fun _=>false) (fun _=>false) (fun b=>Nat.beq a b) (fun _=>false) (fun _=>false))
    (fun _ _=>false) (fun _ _=>false)
    (fun b=>@List.casesOn SV (fun _=>Bool) b true (fun _ _=>false))
    (fun _ _ ia ix b=>@List.casesOn SV (fun _=>Bool) b false (fun b y=>bA (ia b) (ix y)))
theorem sameV_eq (a : SV) : ∀ b,sameV a b = true → a = b:=by
  refine @SV.rec (fun a=>∀ b,sameV a b = true → a = b) (fun x=>∀ y,sameV (.tup x) (.tup y) = true → x = y) ?_ ?_ ?_ ?_ (fun _ _=>nT) (fun _ _=>nT) ?_ ?_ a
  · exact fun a b h=>by cases b <;> first | exact nT h | exact congrArg SV.d (sameD_eq _ _ h)
  · exact fun a b h=>by cases b <;> first | exact nT h | exact congrArg SV.ref (Nat.eq_of_beq_eq_true h)
  · exact fun x ih b h=>by cases b <;> first | exact nT h | exact congrArg SV.tup (ih _ h)
  · exact fun a b h=>by cases b <;> first | exact nT h | exact congrArg SV.top (Nat.eq_of_beq_eq_true h)
  · exact fun y h=>by cases y <;> first | rfl | exact nT h
  · exact fun a x ia ix y h=>by
      cases y with
      | nil=>exact nT h
      | cons b y=>rw [ia b (bA_i h).1,ix y (bA_i h).2]
noncomputable def sameVs : List SV → List SV → Bool:=allB sameV
noncomputable def sameE : List (Str × SV) → List (Str × SV) → Bool:=allB fun a b=>bA (seq a.1 b.1) (sameV a.2 b.2)
noncomputable def optB {α : Type} (f : α → α → Bool) (a b : Option α) : Bool:=@Option.rec α (fun _=>Bool) (@Option.rec α (fun _=>Bool) true (fun _=>false) b) (fun a=>@Option.rec α (fun _=>Bool) false (f a) b) a
theorem optB_eq {α : Type} {f : α → α → Bool} (hf : ∀ a b,f a b = true → a = b) (a b : Option α) (h : optB f a b = true) : a = b:=by
  cases a <;> cases b
  · rfl
  · exact nT h
  · exact nT h
  · exact congrArg some (hf _ _ h)
noncomputable def prB {α β : Type} (f : α → α → Bool) (g : β → β → Bool) (a b : α × β) : Bool:=bA (f a.1 b.1) (g a.2 b.2)
theorem prB_eq {α β : Type} {f : α → α → Bool} {g : β → β → Bool} (hf : ∀ a b,f a b = true → a = b) (hg : ∀ a b,g a b = true → a = b) (a b : α × β) (h : prB f g a b = true) : a = b:=Prod.ext (hf _ _ (bA_i h).1) (hg _ _ (bA_i h).2)
noncomputable def sameT : List (D × Option D) → List (D × Option D) → Bool:=allB (prB sameD (optB sameD))
theorem sameT_eq : ∀ x y,sameT x y = true → x = y:=allB_eq (prB_eq sameD_eq (optB_eq sameD_eq))
theorem sameTs_eq : ∀ x y,allB sameT x y = true → x = y:=allB_eq sameT_eq
noncomputable def sameX : LX → LX → Bool :=
  @LX.rec (fun _=>LX → Bool)
    (fun i b=>@LX.casesOn (fun _=>Bool) b (fun j=>Nat.beq i j) (fun _=>false) (fun _ _=>false) (fun _ _=>false) (fun _ _=>false) (fun _ _=>false) (fun _=>false) (fun _ _=>false) (fun _ _=>false) (fun _ _ _=>false))
    (fun a b=>@LX.casesOn (fun _=>Bool) b (fun _=>false) (fun b=>sameDs a b) (fun _ _=>false) (fun _ _=>false) (fun _ _=>false) (fun _ _=>false) (fun _=>false) (fun _ _=>false) (fun _ _=>false) (fun _ _ _=>false))
    (fun t _ ih b=>@LX.casesOn (fun _=>Bool) b (fun _=>false) (fun _=>false) (fun u m=>bA (ih m) (sameT t u)) (fun _ _=>false) (fun _ _=>false) (fun _ _=>false) (fun _=>false) (fun _ _=>false) (fun _ _=>false) (fun _ _ _=>false))
    (fun t _ ih b=>@LX.casesOn (fun _=>Bool) b (fun _=>false) (fun _=>false) (fun _ _=>false) (fun u m=>bA (ih m) (sameT t u)) (fun _ _=>false) (fun _ _=>false) (fun _=>false) (fun _ _=>false) (fun _ _=>false) (fun _ _ _=>false))
    (fun t _ ih b=>@LX.casesOn (fun _=>Bool) b (fun _=>false) (fun _=>false) (fun _ _=>false) (fun _ _=>false) (fun u m=>bA (ih m) (allB sameT t u)) (fun _ _=>false) (fun _=>false) (fun _ _=>false) (fun _ _=>false) (fun _ _ _=>false))
    (fun _ _ ih ih' b=>@LX.casesOn (fun _=>Bool) b (fun _=>false) (fun _=>false) (fun _ _=>false) (fun _ _=>false) (fun _ _=>false) (fun l m=>bA (ih l) (ih' m)) (fun _=>false) (fun _ _=>false) (fun _ _=>false) (fun _ _ _=>false))
    (fun _ ih b=>@LX.casesOn (fun _=>Bool) b (fun _=>false) (fun _=>false) (fun _ _=>false) (fun _ _=>false) (fun _ _=>false) (fun _ _=>false) ih (fun _ _=>false) (fun _ _=>false) (fun _ _ _=>false))
    (fun i _ ih b=>@LX.casesOn (fun _=>Bool) b (fun _=>false) (fun _=>false) (fun _ _=>false) (fun _ _=>false) (fun _ _=>false) (fun _ _=>false) (fun _=>false) (fun j m=>bA (Nat.beq i j) (ih m)) (fun _ _=>false) (fun _ _ _=>false))
    (fun i _ ih b=>@LX.casesOn (fun _=>Bool) b (fun _=>false) (fun _=>false) (fun _ _=>false) (fun _ _=>false) (fun _ _=>false) (fun _ _=>false) (fun _=>false) (fun _ _=>false) (fun j m=>bA (Nat.beq i j) (ih m)) (fun _ _ _=>false))
    (fun i _ _ ih ih' b=>@LX.casesOn (fun _=>Bool) b (fun _=>false) (fun _=>false) (fun _ _=>false) (fun _ _=>false) (fun _ _=>false) (fun _ _=>false) (fun _=>false) (fun _ _=>false) (fun _ _=>false) (fun j l m=>bA (Nat.beq i j) (bA (ih l) (ih' m))))
theorem c2 {α β γ : Type} (f : α → β → γ) {a b : α} {c d : β} (h : a = b) (k : c = d) : f a c = f b d:=h ▸ k ▸ rfl
theorem sameX_eq (x : LX) : ∀ y,sameX x y = true → x = y:=by
  induction x with
  | var i=>exact fun y=>by cases y <;> first | exact nT | exact fun h=>congrArg LX.var (Nat.eq_of_beq_eq_true h)
  | lit a=>exact fun y=>by cases y <;> first | exact nT | exact fun h=>congrArg LX.lit (sameDs_eq h)
  | map t l ih=>exact fun y=>by cases y <;> first | exact nT | exact fun h=>c2 LX.map (sameT_eq _ _ (bA_i h).2) (ih _ (bA_i h).1)
  | tab t l ih=>exact fun y=>by cases y <;> first | exact nT | exact fun h=>c2 LX.tab (sameT_eq _ _ (bA_i h).2) (ih _ (bA_i h).1)
  | itab t l ih=>exact fun y=>by cases y <;> first | exact nT | exact fun h=>c2 LX.itab (sameTs_eq _ _ (bA_i h).2) (ih _ (bA_i h).1)
  | cat a b ih ih'=>exact fun y=>by cases y <;> first | exact nT | exact fun h=>c2 LX.cat (ih _ (bA_i h).1) (ih' _ (bA_i h).2)
  | rev l ih=>exact fun y=>by cases y <;> first | exact nT | exact fun h=>congrArg LX.rev (ih _ h)
  | take n l ih=>exact fun y=>by cases y <;> first | exact nT | exact fun h=>c2 LX.take (Nat.eq_of_beq_eq_true (bA_i h).1) (ih _ (bA_i h).2)
  | drop n l ih=>exact fun y=>by cases y <;> first | exact nT | exact fun h=>c2 LX.drop (Nat.eq_of_beq_eq_true (bA_i h).1) (ih _ (bA_i h).2)
  | fn n a b ih ih'=>exact fun y=>by cases y <;> first | exact nT | exact fun h=>congr (c2 LX.fn (Nat.eq_of_beq_eq_true (bA_i h).1) (ih _ (bA_i (bA_i h).2).1)) (ih' _ (bA_i (bA_i h).2).2)
noncomputable def sameDX : DX → DX → Bool :=
  @DX.rec (fun _=>DX → Bool)
    (fun i b=>@DX.casesOn (fun _=>Bool) b (fun j=>Nat.beq i j) (fun _ _ _=>false) (fun _=>false))
    (fun _ k v ih b=>@DX.casesOn (fun _=>Bool) b (fun _=>false) (fun y l w=>bA (ih y) (bA (seq k l) (sameD v w))) (fun _=>false))
    (fun l b=>@DX.casesOn (fun _=>Bool) b (fun _=>false) (fun _ _ _=>false) (fun m=>sameX l m))
theorem sameDX_eq (x : DX) : ∀ y,sameDX x y = true → x = y:=by
  induction x with
  | var i=>exact fun y=>by cases y <;> first | exact nT | exact fun h=>congrArg DX.var (Nat.eq_of_beq_eq_true h)
  | setd x k v ih=>exact fun y=>by cases y <;> first | exact nT | exact fun h=>congr (c2 DX.setd (ih _ (bA_i h).1) (seq_eq (bA_i (bA_i h).2).1)) (sameD_eq _ _ (bA_i (bA_i h).2).2)
  | first l=>exact fun y=>by cases y <;> first | exact nT | exact fun h=>congrArg DX.first (sameX_eq _ _ h)
noncomputable def sameO (x y : SO) : Bool :=
  @SO.casesOn (fun _=>Bool) x
    (fun a=>@SO.casesOn (fun _=>Bool) y (fun b=>sameDs a b) (fun _ _ _=>false) (fun _=>false) (fun _=>false) (fun _ _=>false) (fun _=>false) (fun _=>false) (fun _=>false) (fun _ _=>false))
    (fun n a l=>@SO.casesOn (fun _=>Bool) y (fun _=>false) (fun m b k=>bA (Nat.beq n m) (bA (sameDs a b) (sameX l k))) (fun _=>false) (fun _=>false) (fun _ _=>false) (fun _=>false) (fun _=>false) (fun _=>false) (fun _ _=>false))
    (fun a=>@SO.casesOn (fun _=>Bool) y (fun _=>false) (fun _ _ _=>false) (fun b=>sameVs a b) (fun _=>false) (fun _ _=>false) (fun _=>false) (fun _=>false) (fun _=>false) (fun _ _=>false))
    (fun a=>@SO.casesOn (fun _=>Bool) y (fun _=>false) (fun _ _ _=>false) (fun _=>false) (fun b=>sameE a b) (fun _ _=>false) (fun _=>false) (fun _=>false) (fun _=>false) (fun _ _=>false))
    (fun c d=>@SO.casesOn (fun _=>Bool) y (fun _=>false) (fun _ _ _=>false) (fun _=>false) (fun _=>false) (fun c' d'=>bA (Nat.beq c c') (Nat.beq d d')) (fun _=>false) (fun _=>false) (fun _=>false) (fun _ _=>false))
    (fun a=>@SO.casesOn (fun _=>Bool) y (fun _=>false) (fun _ _ _=>false) (fun _=>false) (fun _=>false) (fun _ _=>false) (fun b=>sameDX a b) (fun _=>false) (fun _=>false) (fun _ _=>false))
    (fun a=>@SO.casesOn (fun _=>Bool) y (fun _=>false) (fun _ _ _=>false) (fun _=>false) (fun _=>false) (fun _ _=>false) (fun _=>false) (fun b=>Nat.beq a b) (fun _=>false) (fun _ _=>false))
    (fun a=>@SO.casesOn (fun _=>Bool) y (fun _=>false) (fun _ _ _=>false) (fun _=>false) (fun _=>false) (fun _ _=>false) (fun _=>false) (fun _=>false) (fun b=>Nat.beq a b) (fun _ _=>false))
    (fun k r=>@SO.casesOn (fun _=>Bool) y (fun _=>false) (fun _ _ _=>false) (fun _=>false) (fun _=>false) (fun _ _=>false) (fun _=>false) (fun _=>false) (fun _=>false) (fun k' r'=>bA (Nat.beq k k') (lbeq r r')))
theorem sameO_eq (x y : SO) : sameO x y = true → x = y:=by
  cases x with
  | dl a=>cases y <;> first | exact nT | exact fun h=>congrArg SO.dl (sameDs_eq h)
  | ls a=>cases y <;> first | exact nT | exact fun h=>congrArg SO.ls (allB_eq sameV_eq _ _ h)
  | di a=>cases y <;> first | exact nT | exact fun h=>congrArg SO.di (allB_eq (prB_eq (fun _ _=>seq_eq) sameV_eq) _ _ h)
  | sd a=>cases y <;> first | exact nT | exact fun h=>congrArg SO.sd (sameDX_eq _ _ h)
  | bd a=>cases y <;> first | exact nT | exact fun h=>congrArg SO.bd (Nat.eq_of_beq_eq_true h)
  | any a=>cases y <;> first | exact nT | exact fun h=>congrArg SO.any (Nat.eq_of_beq_eq_true h)
  | as k r=>cases y <;> first | exact nT | exact fun h=>c2 SO.as (Nat.eq_of_beq_eq_true (bA_i h).1) (lbeq_eq (bA_i h).2)
  | inst c d=>cases y <;> first | exact nT | exact fun h=>c2 SO.inst (Nat.eq_of_beq_eq_true (bA_i h).1) (Nat.eq_of_beq_eq_true (bA_i h).2)
  | sy n a l=>cases y <;> first | exact nT | exact fun h=>congr (c2 SO.sy (Nat.eq_of_beq_eq_true (bA_i h).1) (sameDs_eq (bA_i (bA_i h).2).1)) (sameX_eq _ _ (bA_i (bA_i h).2).2)
noncomputable def sameS : Sto → Sto → Bool:=@List.rec SO (fun _=>Sto → Bool) (fun _=>true) fun a _ ih y=>@List.casesOn SO (fun _=>Bool) y false fun b y=>bA (sameO a b) (ih y)
theorem sameS_take (x : Sto) : ∀ y,sameS x y = true → y.take x.length = x:=by
  induction x with
  | nil=>exact fun _ _=>rfl
  | cons a x ih =>
    intro y h
    cases y with
    | nil=>exact nT h
    | cons b y=>rw [List.length_cons,List.take_succ_cons,ih y (bA_i h).2,sameO_eq _ _ (bA_i h).1]
section
variable {γ : Type}
noncomputable def vRef (v : SV) (f : Nat → Option γ) : Option γ:=@SV.casesOn (fun _=>Option γ) v (fun _=>none) f (fun _=>none) (fun _=>none) (fun _=>none) (fun _=>none)
theorem Sat.vRef {v : SV} {f : Nat → Option γ} {P : SV → γ → Prop} (k : ∀ i,Sat (f i) (P (.ref i))) : Sat (vRef v f) (P v):=by cases v <;> first | exact k _ | exact .no
noncomputable def vD (v : SV) (f : D → Option γ) : Option γ:=@SV.casesOn (fun _=>Option γ) v f (fun _=>none) (fun _=>none) (fun _=>none) (fun _=>none) (fun _=>none)
theorem Sat.vD {v : SV} {f : D → Option γ} {P : SV → γ → Prop} (k : ∀ x,Sat (f x) (P (.d x))) : Sat (vD v f) (P v):=by cases v <;> first | exact k _ | exact .no
noncomputable def dK (x : D) (fi : Int → Option γ) (fs : Str → Option γ) (ft : List D → Option γ) : Option γ:=@D.casesOn (fun _=>Option γ) x none (fun _=>none) fi fs ft
theorem Sat.dK {x : D} {fi : Int → Option γ} {fs : Str → Option γ} {ft : List D → Option γ} {P : D → γ → Prop} (h1 : ∀ i,Sat (fi i) (P (.int i))) (h2 : ∀ s,Sat (fs s) (P (.str s))) (h3 : ∀ xs,Sat (ft xs) (P (.tup xs))) : Sat (dK x fi fs ft) (P x):=by
  cases x <;> first | exact h1 _ | exact h2 _ | exact h3 _ | exact .no
noncomputable def vInt (v : SV) (f : Int → Option γ) : Option γ:=vD v fun x=>dK x f (fun _=>none) fun _=>none
theorem Sat.vInt {v : SV} {f : Int → Option γ} {P : SV → γ → Prop} (k : ∀ x,Sat (f x) (P (.d (.int x)))) : Sat (vInt v f) (P v):=.vD fun x=>.dK (P:=fun x=>P (.d x)) k (fun _=>.no) fun _=>.no
noncomputable def vStr (v : SV) (f : Str → Option γ) : Option γ:=vD v fun x=>dK x (fun _=>none) f fun _=>none
theorem Sat.vStr {v : SV} {f : Str → Option γ} {P : SV → γ → Prop} (k : ∀ x,Sat (f x) (P (.d (.str x)))) : Sat (vStr v f) (P v):=.vD fun x=>.dK (P:=fun x=>P (.d x)) (fun _=>.no) k fun _=>.no
noncomputable def vK (v : SV) (fd : D → Option γ) (fr : Nat → Option γ) (ft : List SV → Option γ) : Option γ:=@SV.casesOn (fun _=>Option γ) v fd fr ft (fun _=>none) (fun _=>none) (fun _=>none)
theorem Sat.vK {v : SV} {fd : D → Option γ} {fr : Nat → Option γ} {ft : List SV → Option γ} {P : SV → γ → Prop} (h1 : ∀ x,Sat (fd x) (P (.d x))) (h2 : ∀ i,Sat (fr i) (P (.ref i))) (h3 : ∀ xs,Sat (ft xs) (P (.tup xs))) : Sat (vK v fd fr ft) (P v):=by
  cases v <;> first | exact h1 _ | exact h2 _ | exact h3 _ | exact .no
noncomputable def oL (o : SO) (f : List D → Option γ) (g : List SV → Option γ) (k : Nat → List D → LX → Option γ) : Option γ:=@SO.casesOn (fun _=>Option γ) o f k g (fun _=>none) (fun _ _=>none) (fun _=>none) (fun _=>none) (fun _=>none) (fun _ _=>none)
theorem Sat.oL {o : SO} {f : List D → Option γ} {g : List SV → Option γ} {k : Nat → List D → LX → Option γ} {P : SO → γ → Prop} (h1 : ∀ xs,Sat (f xs) (P (.dl xs))) (h2 : ∀ xs,Sat (g xs) (P (.ls xs))) (h3 : ∀ n al l,Sat (k n al l) (P (.sy n al l))) : Sat (oL o f g k) (P o):=by
  cases o <;> first | exact h1 _ | exact h2 _ | exact h3 _ _ _ | exact .no
noncomputable def oDi (o : SO) (f : List (Str × SV) → Option γ) (g : DX → Option γ) (k : Nat → Nat → Option γ) : Option γ:=@SO.casesOn (fun _=>Option γ) o (fun _=>none) (fun _ _ _=>none) (fun _=>none) f k g (fun _=>none) (fun _=>none) (fun _ _=>none)
theorem Sat.oDi {o : SO} {f : List (Str × SV) → Option γ} {g : DX → Option γ} {k : Nat → Nat → Option γ} {P : SO → γ → Prop} (h1 : ∀ es,Sat (f es) (P (.di es))) (h2 : ∀ x,Sat (g x) (P (.sd x))) (h3 : ∀ c d,Sat (k c d) (P (.inst c d))) : Sat (oDi o f g k) (P o):=by
  cases o <;> first | exact h1 _ | exact h2 _ | exact h3 _ _ | exact .no
variable {σ : Sto} {i : Nat} {P : γ → Prop}
noncomputable def aO (σ : Sto) (i : Nat) (f : SO → Option γ) : Option γ:=oo (K.nth σ i) f
theorem Sat.aO {f : SO → Option γ} (k : ∀ o,σ[i]? = some o → Sat (f o) P) : Sat (aO σ i f) P:=.oo fun o h=>k o (nth_eq σ i ▸ h)
noncomputable def aL (σ : Sto) (i : Nat) (f : List D → Option γ) (g : List SV → Option γ) (k : Nat → List D → LX → Option γ) : Option γ:=aO σ i fun o=>oL o f g k
theorem Sat.aL {f : List D → Option γ} {g : List SV → Option γ} {k : Nat → List D → LX → Option γ} (h1 : ∀ xs,σ[i]? = some (.dl xs) → Sat (f xs) P) (h2 : ∀ xs,σ[i]? = some (.ls xs) → Sat (g xs) P) (h3 : ∀ n al l,σ[i]? = some (.sy n al l) → Sat (k n al l) P) : Sat (aL σ i f g k) P :=
  .aO fun _ e _ h=>Sat.oL (P:=fun o r=>σ[i]? = some o → P r) (fun xs _ h e=>h1 xs e h) (fun xs _ h e=>h2 xs e h) (fun n al l _ h e=>h3 n al l e h) h e
noncomputable def aDl (σ : Sto) (i : Nat) (f : List D → Option γ) : Option γ:=aL σ i f (fun _=>none) fun _ _ _=>none
theorem Sat.aDl {f : List D → Option γ} (k : ∀ xs,σ[i]? = some (.dl xs) → Sat (f xs) P) : Sat (aDl σ i f) P:=.aL k (fun _ _=>.no) fun _ _ _ _=>.no
noncomputable def aSy (σ : Sto) (i : Nat) (f : Nat → List D → LX → Option γ) : Option γ:=aL σ i (fun _=>none) (fun _=>none) f
theorem Sat.aSy {f : Nat → List D → LX → Option γ} (k : ∀ n al l,σ[i]? = some (.sy n al l) → Sat (f n al l) P) : Sat (aSy σ i f) P:=.aL (fun _ _=>.no) (fun _ _=>.no) k
noncomputable def aDx (σ : Sto) (i : Nat) (f : List (Str × SV) → Option γ) (g : DX → Option γ) (k : Nat → Nat → Option γ) : Option γ:=aO σ i fun o=>oDi o f g k
theorem Sat.aDx {f : List (Str × SV) → Option γ} {g : DX → Option γ} {k : Nat → Nat → Option γ} (h1 : ∀ es,σ[i]? = some (.di es) → Sat (f es) P) (h2 : ∀ x,σ[i]? = some (.sd x) → Sat (g x) P) (h3 : ∀ c d,σ[i]? = some (.inst c d) → Sat (k c d) P) : Sat (aDx σ i f g k) P :=
  .aO fun _ e _ h=>Sat.oDi (P:=fun o r=>σ[i]? = some o → P r) (fun es _ h e=>h1 es e h) (fun x _ h e=>h2 x e h) (fun c d _ h e=>h3 c d e h) h e
noncomputable def aDi (σ : Sto) (i : Nat) (f : List (Str × SV) → Option γ) : Option γ:=aDx σ i f (fun _=>none) fun _ _=>none
theorem Sat.aDi {f : List (Str × SV) → Option γ} (k : ∀ es,σ[i]? = some (.di es) → Sat (f es) P) : Sat (aDi σ i f) P:=.aDx k (fun _ _=>.no) fun _ _ _=>.no
noncomputable def aIn (σ : Sto) (i : Nat) (f : Nat → Nat → List (Str × SV) → Option γ) : Option γ:=aDx σ i (fun _=>none) (fun _=>none) fun c d=>aDi σ d (f c d)
theorem Sat.aIn {f : Nat → Nat → List (Str × SV) → Option γ} (k : ∀ c d es,σ[i]? = some (.inst c d) → σ[d]? = some (.di es) → Sat (f c d es) P) : Sat (aIn σ i f) P:=.aDx (fun _ _=>.no) (fun _ _=>.no) fun c d h=>.aDi fun es h'=>k c d es h h'
end
noncomputable def nw (σ : Sto) (o : SO) : Option (SV × Sto):=some (.ref (K.len σ),K.app σ [o])
theorem Sat.nw {σ : Sto} {o : SO} {P : SV → Sto → Prop} (h : P (.ref σ.length) (σ ++ [o])) : Sat (nw σ o) (U2 P):=.yes (by unfold U2; dsimp only; rw [K.len_eq,K.app_eq]; exact h)
noncomputable def upd (σ : Sto) (i : Nat) (o : SO) (v : SV) : Option (SV × Sto):=some (v,K.lset σ i o)
theorem Sat.upd {σ : Sto} {i : Nat} {o : SO} {v : SV} {P : SV → Sto → Prop} (h : P v (σ.set i o)) : Sat (upd σ i o v) (U2 P):=.yes (by unfold U2; dsimp only; rw [K.lset_eq]; exact h)
noncomputable def pwBody : List Stmt:=PySem.Challenge.pw_sm0116_01.main.body
noncomputable def stN (i : Nat) : Stmt:=@Option.rec Stmt (fun _=>Stmt) (.Pass ⟨0,0,0,0⟩) (fun s=>s) (K.nth pwBody i)
noncomputable def clsBody (s : Stmt) : List Stmt:=@Stmt.casesOn (fun _=>List Stmt) s (fun _ _ _ _ _ _ _ _ _ _=>[]) (fun _ _ _ _ _ _ _ _ _ _=>[]) (fun _ _ _ b _ _ _ _ _ _ _=>b) (fun _ _=>[]) (fun _ _=>[]) (fun _ _ _=>[]) (fun _ _ _ _ _ _ _=>[]) (fun _ _ _ _=>[]) (fun _ _ _ _ _=>[]) (fun _ _ _ _ _=>[]) (fun _ _ _ _ _=>[]) (fun _ _ _ _=>[]) (fun _ _ _ _=>[]) (fun _ _ _=>[]) (fun _ _ _=>[]) (fun _ _ _=>[]) (fun _ _ _=>[]) (fun _ _ _ _ _=>[]) (fun _ _ _ _ _=>[]) (fun _ _ _=>[]) (fun _ _=>[]) (fun _ _ _ _=>[]) (fun _ _=>[]) (fun _ _=>[]) (fun _ _=>[]) (fun _=>[]) (fun _=>[]) (fun _=>[])
noncomputable def mtN (i j : Nat) : Stmt:=@Option.rec Stmt (fun _=>Stmt) (.Pass ⟨0,0,0,0⟩) (fun s=>s) (K.nth (clsBody (stN i)) j)
inductive BT (α : Type) where | nil | node (k : Nat) (v : α) (l r : BT α)
noncomputable def BT.get {α : Type} : BT α → Nat → Option α:=@BT.rec α (fun _=>Nat → Option α) (fun _=>none) fun k v _ _ l r x=>bI (Nat.beq k x) (some v) (bI (Nat.blt x k) (l x) (r x))
noncomputable def BT.toL {α : Type} : BT α → List α:=@BT.rec α (fun _=>List α) [] fun _ v _ _ l r=>v :: (l ++ r)
theorem BT.get_mem {α : Type} (t : BT α) (x : Nat) : Sat (t.get x) (· ∈ t.toL):=by
  induction t with
  | nil=>exact .no
  | node k v l r ihl ihr=>exact .bI (fun _=>.yes (.head _)) fun _=>.bI (fun _=>ihl.mono fun _ h=>.tail _ (List.mem_append_left _ h)) fun _=>ihr.mono fun _ h=>.tail _ (List.mem_append_right _ h)
noncomputable def fnT : BT (Stmt × List SV):=(.node 552 (stN 77,[]) (.node 315 (stN 45,[]) (.node 161 (stN 27,[]) (.node 105 (stN 16,[]) (.node 77 (stN 12,[]) (.node 63 (stN 10,[]) (.node 48 (mtN 3 0,[]) (.node 21 (stN 0,[]) .nil .nil) .nil) (.node 70 (stN 11,[]) .nil .nil)) (.node 91 (stN 14,[]) (.node 84 (stN 13,[]) .nil .nil) (.node 98 (stN 15,[]) .nil .nil))) (.node 133 (stN 20,[]) (.node 119 (stN 18,[]) (.node 112 (stN 17,[]) .nil .nil) (.node 126 (stN 19,[]) .nil .nil)) (.node 147 (stN 25,[]) (.node 140 (stN 24,[]) .nil .nil) (.node 154 (stN 26,[]) .nil .nil)))) (.node 223 (stN 36,[]) (.node 196 (stN 32,[]) (.node 182 (stN 30,[]) (.node 175 (stN 29,[]) (.node 168 (stN 28,[]) .nil .nil) .nil) (.node 189 (stN 31,[]) .nil .nil)) (.node 208 (stN 34,[]) (.node 203 (stN 33,[]) .nil .nil) (.node 216 (stN 35,[.d (.int 7)]) .nil .nil))) (.node 251 (stN 40,[]) (.node 237 (stN 38,[]) (.node 230 (stN 37,[]) .nil .nil) (.node 244 (stN 39,[]) .nil .nil)) (.node 272 (mtN 43 0,[]) (.node 258 (stN 41,[]) .nil .nil) (.node 294 (mtN 44 0,[.d .none]) .nil .nil))))) (.node 427 (stN 63,[]) (.node 377 (stN 54,[]) (.node 349 (stN 50,[.d .none]) (.node 336 (stN 48,[]) (.node 329 (stN 47,[]) (.node 322 (stN 46,[]) .nil .nil) .nil) (.node 343 (stN 49,[]) .nil .nil)) (.node 363 (stN 52,[]) (.node 356 (stN 51,[]) .nil .nil) (.node 370 (stN 53,[]) .nil .nil))) (.node 405 (stN 59,[]) (.node 391 (stN 57,[]) (.node 384 (stN 56,[]) .nil .nil) (.node 398 (stN 58,[]) .nil .nil)) (.node 417 (stN 61,[]) (.node 412 (stN 60,[]) .nil .nil) (.node 422 (stN 62,[]) .nil .nil)))) (.node 495 (mtN 68 5,[]) (.node 467 (mtN 68 1,[]) (.node 446 (stN 66,[]) (.node 439 (stN 65,[]) (.node 434 (stN 64,[]) .nil .nil) .nil) (.node 460 (mtN 68 0,[]) .nil .nil)) (.node 481 (mtN 68 3,[]) (.node 474 (mtN 68 2,[]) .nil .nil) (.node 488 (mtN 68 4,[]) .nil .nil))) (.node 528 (stN 71,[]) (.node 514 (stN 69,[]) (.node 500 (mtN 68 6,[]) .nil .nil) (.node 521 (stN 70,[]) .nil .nil)) (.node 539 (stN 73,[.d .none]) (.node 533 (stN 72,[]) .nil .nil) (.node 545 (stN 74,[.d .none]) .nil .nil)))))) (.node 778 (stN 116,[]) (.node 667 (stN 95,[]) (.node 615 (stN 86,[]) (.node 587 (stN 82,[]) (.node 573 (stN 80,[]) (.node 566 (stN 79,[]) (.node 559 (stN 78,[]) .nil .nil) .nil) (.node 580 (stN 81,[]) .nil .nil)) (.node 601 (stN 84,[]) (.node 594 (stN 83,[]) .nil .nil) (.node 608 (stN 85,[]) .nil .nil))) (.node 643 (stN 90,[]) (.node 629 (stN 88,[]) (.node 622 (stN 87,[]) .nil .nil) (.node 636 (stN 89,[]) .nil .nil)) (.node 655 (stN 92,[]) (.node 648 (stN 91,[]) .nil .nil) (.node 660 (stN 93,[]) .nil .nil)))) (.node 722 (stN 107,[]) (.node 694 (stN 101,[]) (.node 682 (stN 98,[]) (.node 677 (stN 97,[]) (.node 672 (stN 96,[]) .nil .nil) .nil) (.node 689 (stN 99,[]) .nil .nil)) (.node 708 (stN 105,[]) (.node 701 (stN 104,[]) .nil .nil) (.node 715 (stN 106,[]) .nil .nil))) (.node 750 (stN 111,[]) (.node 736 (stN 109,[]) (.node 729 (stN 108,[]) .nil .nil) (.node 743 (stN 110,[]) .nil .nil)) (.node 764 (stN 114,[]) (.node 757 (stN 113,[]) .nil .nil) (.node 771 (stN 115,[]) .nil .nil))))) (.node 885 (stN 135,[]) (.node 836 (stN 126,[]) (.node 810 (stN 121,[]) (.node 796 (stN 119,[.d (.bool false)]) (.node 790 (stN 118,[]) (.node 783 (stN 117,[]) .nil .nil) .nil) (.node 803 (stN 120,[]) .nil .nil)) (.node 822 (stN 123,[]) (.node 815 (stN 122,[]) .nil .nil) (.node 829 (stN 125,[]) .nil .nil))) (.node 863 (stN 131,[]) (.node 851 (stN 129,[]) (.node 844 (stN 127,[.d (.bool false)]) .nil .nil) (.node 858 (stN 130,[]) .nil .nil)) (.node 873 (stN 133,[]) (.node 868 (stN 132,[]) .nil .nil) (.node 878 (stN 134,[]) .nil .nil)))) (.node 942 (stN 145,[]) (.node 916 (stN 141,[]) (.node 904 (stN 139,[]) (.node 897 (stN 138,[]) (.node 890 (stN 136,[]) .nil .nil) .nil) (.node 911 (stN 140,[]) .nil .nil)) (.node 930 (stN 143,[]) (.node 923 (stN 142,[]) .nil .nil) (.node 935 (stN 144,[]) .nil .nil))) (.node 966 (stN 149,[]) (.node 956 (stN 147,[]) (.node 949 (stN 146,[]) .nil .nil) (.node 961 (stN 148,[]) .nil .nil)) (.node 976 (stN 151,[]) (.node 971 (stN 150,[]) .nil .nil) (.node 981 (stN 152,[]) .nil .nil)))))))
noncomputable def fnAt (a : Nat) : Option (Stmt × List SV):=fnT.get a
noncomputable def glT : BT (Str × SV):=(.node 267104634756040667900319237765575819658180162910449893484 (Str.ofString "list_place",(.top 771)) (.node 198887194834707647851751670713253036130 (Str.ofString "b_match",(.top 878)) (.node 154069190849707460449599598 (Str.ofString "named",(.top 343)) (.node 139671675431906508916 (Str.ofString "take",(.top 545)) (.node 142743347265633 (Str.ofString "abs",(.bi .abs)) (.node 136537122865260 (Str.ofString "len",(.bi .len)) (.node 127848404025454 (Str.ofString "neg",(.top 105)) (.node 124124665151591 (Str.ofString "gcd",(.top 63)) .nil .nil) .nil) (.node 141502121771123 (Str.ofString "str",(.ty .str)) .nil .nil)) (.node 148949573894253 (Str.ofString "max",(.bi .max)) (.node 147708328345708 (Str.ofString "law",(.top 981)) .nil .nil) (.node 139671675431906508909 (Str.ofString "make",(.top 77)) .nil .nil))) (.node 149351886320960471138 (Str.ofString "bool",(.ty .bool)) (.node 149351882597230510158 (Str.ofString "Null",(.top 275)) (.node 147968984865427751024 (Str.ofString "pick",(.top 672)) (.node 139671686603132043374 (Str.ofString "note",(.top 566)) .nil .nil) .nil) (.node 149351882597230510190 (Str.ofString "null",(.top 315)) .nil .nil)) (.node 160414983770571604076 (Str.ofString "list",(.ty .list)) (.node 160414963910642827364 (Str.ofString "dict",(.ty .dict)) .nil .nil) (.node 149447131760328241865490537 (Str.ofString "is_na",(.top 91)) .nil .nil)))) (.node 175083353337756172654647315071076 (Str.ofString "dim_of",(.top 434)) (.node 171650334355947895289863715618931 (Str.ofString "scaled",(.top 154)) (.node 166394724624140853267857503 (Str.ofString "_wall",(.top 21)) (.node 155609899338998148504223859 (Str.ofString "share",(.top 377)) (.node 155609884127262118314573938 (Str.ofString "range",(.ty .range)) .nil .nil) .nil) (.node 169476101499041762438283376 (Str.ofString "plain",(.top 803)) .nil .nil)) (.node 171650334355950661084086068904052 (Str.ofString "turned",(.top 790)) (.node 171650334355949278197525482766438 (Str.ofString "formed",(.top 203)) .nil .nil) (.node 171650334355958958403449538936947 (Str.ofString "sorted",(.bi .sorted)) .nil .nil))) (.node 191237712758485286604590988687151661153 (Str.ofString "as_kind",(.top 660)) (.node 191237697309961496011063949201902600290 (Str.ofString "bounded",(.top 70)) (.node 195681374787312035693336466882646 (Str.ofString "Vector",(.top 304)) (.node 178516364616140931722072068259948 (Str.ofString "length",(.top 356)) .nil .nil) .nil) (.node 191237697309983065665782896775625900144 (Str.ofString "powered",(.top 244)) .nil .nil)) (.node 195062464953834205038294647824983851116 (Str.ofString "list_of",(.top 349)) (.node 193150094863911379862588802002713509987 (Str.ofString "compare",(.top 133)) .nil .nil) (.node 198887194834690700265802305799698972770 (Str.ofString "b_which",(.top 863)) .nil .nil))))) (.node 257802817683226085494154104521068648816443487 (Str.ofString "_law_key",(.top 942)) (.node 219452031245041309305116831995717144645009485 (Str.ofString "Matching",(.top 503)) (.node 221835733754397301387130584550673940596 (Str.ofString "to_text",(.top 615)) (.node 218010950662003883130801764582571245673 (Str.ofString "integer",(.top 329)) (.node 206536692359427607999374384942166638674 (Str.ofString "Refusal",(.top 51)) (.node 206536692359402956934591262729101574252 (Str.ofString "logical",(.top 322)) .nil .nil) .nil) (.node 219923319035415676708399912697466191977 (Str.ofString "item_as",(.top 622)) .nil .nil)) (.node 215190844226175217553089870984240033757593698 (Str.ofString "b_unique",(.top 873)) (.node 215190827014794629666553875650189752644075636 (Str.ofString "to_whole",(.top 112)) .nil .nil) (.node 217321432954646133842083816805401229731627118 (Str.ofString "names_of",(.top 427)) .nil .nil))) (.node 247149809019938280300783093827185186419572844 (Str.ofString "level_at",(.top 412)) (.node 242888644949597376228732005397771385882083440 (Str.ofString "put_attr",(.top 398)) (.node 242888644949597376228732005397771385864257639 (Str.ofString "get_attr",(.top 384)) (.node 219452038894528535002026669986772480940572774 (Str.ofString "flag_arg",(.top 858)) .nil .nil) .nil) (.node 245019216466718601680311869405860410225393773 (Str.ofString "measures",(.top 189)) .nil .nil)) (.node 247149833880833557905124861667479974214500454 (Str.ofString "from_int",(.top 84)) (.node 247149833880826691921085379835814325385691237 (Str.ofString "exponent",(.top 126)) .nil .nil) (.node 257802817683226085494154090692208008013021289 (Str.ofString "item_key",(.top 757)) .nil .nil)))) (.node 261110247120322895043452163419310825650326991339620 (Str.ofString "digit_run",(.top 230)) (.node 239746699711897022231925220049419141518416729538665 (Str.ofString "is_finite",(.top 98)) (.node 237372940499825188324185330272117552135916369412201 (Str.ofString "is_listed",(.top 764)) (.node 237372931977395691653413741944641214003709456679007 (Str.ofString "_law_bead",(.top 904)) (.node 234999221769122783958435152638325975648496355836009 (Str.ofString "is_atomic",(.top 370)) .nil .nil) .nil) (.node 239746682667082013591265575923726671844090922860660 (Str.ofString "to_double",(.top 608)) .nil .nil)) (.node 256362750002110496876612360663588576253309486366825 (Str.ofString "identical",(.top 750)) (.node 239746712495498238760007073829460306098174857183348 (Str.ofString "tree_size",(.top 694)) .nil .nil) (.node 261110213030694790147671266318860204180288639336543 (Str.ofString "_law_seen",(.top 956)) .nil .nil))) (.node 270605154002085832024945071997716342714169956630628 (Str.ofString "drop_attr",(.top 391)) (.node 270605143349084818262128611779300655643790141489257 (Str.ofString "is_factor",(.top 667)) (.node 270605122043082790729629678029909212649546398040163 (Str.ofString "character",(.top 336)) .nil .nil) (.node 270605143349084818262128617942084828949941254815849 (Str.ofString "is_vector",(.top 363)) .nil .nil)) (.node 272978881255166098899105163064180930263426048000115 (Str.ofString "same_dots",(.top 729)) (.node 272978849296159232844728417650170740673559542431859 (Str.ofString "set_names",(.top 422)) .nil .nil) (.node 277726322977725416133075490309902303841491949977695 (Str.ofString "_law_menu",(.top 911)) .nil .nil)))))) (.node 341780167855656211921249643716300088580850163500326876732981343 (Str.ofString "_law_height",(.top 949)) (.node 306773654865237734447546191504124962512313636302475559014 (Str.ofString "fixed_text",(.top 182)) (.node 301484413729635356346558170693034675358587578872277958772 (Str.ofString "to_integer",(.top 601)) (.node 275038428808240958543234438550803285883266660663275815007 (Str.ofString "_law_which",(.top 976)) (.node 272393856901846327254106839314795951157758522423383359593 (Str.ofString "is_lacking",(.top 829)) (.node 267104677483167443735982429488053702203501671786612260983 (Str.ofString "which_true",(.top 677)) (.node 267104634756068365681918909246483699270903435962569916521 (Str.ofString "isinstance",(.bi .isinstance)) .nil .nil) .nil) (.node 272393866396738294788851292989949869698483457052894363758 (Str.ofString "needed_arg",(.top 851)) .nil .nil)) (.node 285616816130351329896196328049110299579528149048181588084 (Str.ofString "to_logical",(.top 594)) (.node 275038469161629828291879893325945941084627839907112157279 (Str.ofString "_law_truth",(.top 923)) .nil .nil) (.node 301484413729628964570810780473428998996487482791243087979 (Str.ofString "kind_order",(.top 552)) .nil .nil))) (.node 304129030736843535176449123474541587209338458413835812979 (Str.ofString "same_items",(.top 708)) (.node 304129009373317432748779071653163139476420991637214134370 (Str.ofString "both_kinds",(.top 810)) (.node 304129009373289734938493762998308102389984671152955195487 (Str.ofString "_law_beads",(.top 897)) (.node 301484449335571850488975604053524372091036184749196181603 (Str.ofString "class_attr",(.top 446)) .nil .nil) .nil) (.node 304129011747042555223106066845067024216706148829561946231 (Str.ofString "with_names",(.top 655)) .nil .nil)) (.node 304129042605511759628634134529638155449901626964571127923 (Str.ofString "same_attrs",(.top 701)) (.node 304129033110562265836781233957248252082348576886145941599 (Str.ofString "_law_means",(.top 930)) .nil .nil) (.node 304129047352955612791978887677237401098110772488912830579 (Str.ofString "same_slots",(.top 722)) .nil .nil)))) (.node 297584526440124273324893193108414435686282781361293563647492191 (Str.ofString "_law_unique",(.top 966)) (.node 294638105740207789415430935647042562019257273834377078628352105 (Str.ofString "is_unsorted",(.top 844)) (.node 306773654865237734447546191504140369422962956950754295920 (Str.ofString "plain_text",(.top 528)) (.node 306773654865237734447546191504137288036407851358748737644 (Str.ofString "label_text",(.top 405)) (.node 306773654865237734447546191504126503212505611350781198455 (Str.ofString "whole_text",(.top 140)) .nil .nil) .nil) (.node 294638105740188799584622589027280584633142743467827613489954911 (Str.ofString "_law_called",(.top 935)) .nil .nil)) (.node 297584481481938987823114665830870214335021391326099188608991347 (Str.ofString "same_inside",(.top 743)) (.node 294638129541563834950470262341551299074487356063201133034668131 (Str.ofString "common_kind",(.top 559)) .nil .nil) (.node 297584513217153176194278070378566243827927339008972261388779634 (Str.ofString "refuse_type",(.top 643)) .nil .nil))) (.node 335887429595162538524158385158603683932950249882010486183821407 (Str.ofString "_law_vector",(.top 916)) (.node 318209132831036161449931601475221201122381714232813442638610547 (Str.ofString "same_kernel",(.top 736)) (.node 300530888958848768688904266112366853272644897196661363611074660 (Str.ofString "dimnames_of",(.top 439)) .nil .nil) (.node 321155545597168088078768559138775947162244561043854962580783203 (Str.ofString "chosen_form",(.top 196)) .nil .nil)) (.node 338833781535521075284725146344891312484122897375743042865135725 (Str.ofString "match_names",(.top 539)) (.node 338833781535497338012194244232717936717618042644074956624232545 (Str.ofString "axis_places",(.top 682)) .nil .nil) (.node 338833821204517447209260791459671675279086422254662377941303404 (Str.ofString "label_texts",(.top 417)) .nil .nil))))) (.node 365718237181469292729498208815360508464908135152013395172120663993975832671 (Str.ofString "_law_unsorted",(.top 971)) (.node 377498770228551886462549689282742135340561559024909371520850805194860 (Str.ofString "list_item_as",(.top 636)) (.node 328259849262402645469389959448821272033592625365210901509248054460511 (Str.ofString "_law_matched",(.top 961)) (.node 341780210169219742800824582509067701259543187504229833272262766 (Str.ofString "number_text",(.top 216)) (.node 341780210169219742800824582509043670234518763053805742062436469 (Str.ofString "unused_text",(.top 533)) (.node 341780183723230073911439209062134324091276050444030851516268659 (Str.ofString "significant",(.top 161)) .nil .nil) .nil) (.node 269173035676183104965682980284671832740784601625871266875014964510797 (Str.ofString "MOST_INTEGER",(.d (.int 2147483647))) .nil .nil)) (.node 354520625182130525557134709716290505875876346033984269081069879885943 (Str.ofString "without_tail",(.top 168)) (.node 331542491921246511393466632104027839175168480877709156135869074702436 (Str.ofString "digits_value",(.top 223)) .nil .nil) (.node 374216186497294259826383356427184938513682665322633225413075986874480 (Str.ofString "parse_number",(.top 258)) .nil .nil))) (.node 380781404048265882521428201756273470317265871493846582013010889343074 (Str.ofString "b_is_element",(.top 885)) (.node 377498802638719425567179303087534067099298743297270609499264717488243 (Str.ofString "same_formals",(.top 715)) (.node 377498782014076010247441753830601845912338874266979978712990759845990 (Str.ofString "first_places",(.top 778)) (.node 377498782014076010247441753830601845912338855778671711166958444544109 (Str.ofString "match_places",(.top 815)) .nil .nil) .nil) (.node 377498826209807342145203958894717729491966551052827877855178921017443 (Str.ofString "common_texts",(.top 208)) .nil .nil)) (.node 380781433512049746091312277268330960527369595738092566672451962929267 (Str.ofString "special_text",(.top 147)) (.node 380781433512049746091312277268315661532320157358541765602634698260580 (Str.ofString "doubled_text",(.top 514)) .nil .nil) (.node 365718237181469292729498208815360508464908135152013395166589127681607925858 (Str.ofString "b_is_unsorted",(.top 868)) .nil .nil)))) (.node 411525609335787981078360987644641860935831200222985425582233761251306569702113396 (Str.ofString "text_to_double",(.top 587)) (.node 420575949288036278968664705312588504353218725380339919784930215950026735715 (Str.ofString "compare_items",(.top 836)) (.node 420575923027295715712661385259135293799363774814064489362923594189603668087 (Str.ofString "without_names",(.top 689)) (.node 420575923027266251928797827243719483753087662139809867515000193802082058357 (Str.ofString "unique_places",(.top 783)) (.node 369375439216012981443316487170827275751860958580238098904069575781115035758 (Str.ofString "nearest_whole",(.top 119)) .nil .nil) .nil) (.node 420575929592451392759327383590557209577379908142157507615773767910199918693 (Str.ofString "element_flags",(.top 890)) .nil .nil)) (.node 407451109577296515598366053332738038518821450567937394508707359396803192295719017 (Str.ofString "is_atomic_kind",(.top 629)) (.node 424233164452976766717284103851991787921551692292719538379723735720090796129 (Str.ofString "argument_text",(.top 521)) .nil .nil) (.node 407451109577296515598366053332773644440401412602241087974011118250104637194698849 (Str.ofString "as_vector_kind",(.top 648)) .nil .nil))) (.node 526577526921992108497682829651635853370672130065888484611222030072062615199214433665121 (Str.ofString "as_logical_text",(.top 573)) (.node 517498535058402373249904699944834277637198063268273963703769188597435353325529857917045 (Str.ofString "unsigned_number",(.top 251)) (.node 411525642250432314482829835583724276110959602279166223399354496011839980736872549 (Str.ofString "exponent_value",(.top 237)) .nil .nil) (.node 526577526921992108497682829651612052007505404744860894863763289192666687961799586938995 (Str.ofString "scientific_text",(.top 175)) .nil .nil)) (.node 581608800736611262348822959639416359725475893583122653670235274690359763267434262723083698276 (Str.ofString "duplicated_flags",(.top 796)) (.node 510804330699903999990948905477404740897736303582660382221134252427748065448433505369365938275 (Str.ofString "check_comparable",(.top 822)) .nil .nil) (.node 642342753019305766114373191986362690134970857477909431689879878392148297484677520867824567934976100 (Str.ofString "double_to_integer",(.top 580)) .nil .nil)))))))
noncomputable def glob (x : Str) : Option SV:=oo (glT.get (scode x.cps.toList)) fun p=>gd (seq p.1 x) (some p.2)
noncomputable def initAt (a : Nat) : Option Nat:=bI (Nat.beq a 275) (some 272) (bI (Nat.beq a 304) (some 294) (bI (Nat.beq a 503) (some 460) none))
noncomputable def tabD (t : List (D × Option D)) (a : D) : Option D:=oo (findB (fun p=>sameD p.1 a) t) fun p=>p.2
noncomputable def eqX (l m : LX) (es : List (LX × LX × Bool)) : Option Bool:=oe (om (findB (fun p=>bA (sameX p.1 l) (sameX p.2.1 m)) es) fun p=>p.2.2) (gd (sameX l m) (some true))
noncomputable def lenF (l : LX) (es : List (LX × Nat)) : Option Nat:=om (findB (fun p=>sameX p.1 l) es) fun p=>p.2
noncomputable def lenX (F : Facts) : LX → Option Nat :=
  @LX.rec (fun _=>Option Nat) (fun i=>lenF (.var i) F.lens) (fun xs=>oe (lenF (.lit xs) F.lens) (some (K.len xs))) (fun t l ih=>oe (lenF (.map t l) F.lens) ih) (fun t l _=>lenF (.tab t l) F.lens) (fun t l _=>lenF (.itab t l) F.lens)
    (fun a b ia ib=>oe (lenF (.cat a b) F.lens) (oo ia fun n=>om ib fun k=>n + k)) (fun l ih=>oe (lenF (.rev l) F.lens) ih) (fun n l _=>lenF (.take n l) F.lens) (fun n l _=>lenF (.drop n l) F.lens) (fun k a b ia _=>oe (lenF (.fn k a b) F.lens) (gle k 1 ia))
noncomputable def atX (l : LX) (k : Nat) (es : List (LX × Nat × D)) : Option D:=om (findB (fun p=>bA (Nat.beq p.2.1 k) (sameX p.1 l)) es) fun p=>p.2.2
noncomputable def idxX (l : LX) (x : D) (es : List (LX × D × Option Nat)) : Option (Option Nat):=om (findB (fun p=>bA (sameD p.2.1 x) (sameX p.1 l)) es) fun p=>p.2.2
noncomputable def cntX : DX → Nat:=@DX.rec (fun _=>Nat) (fun _=>0) (fun _ _ _ n=>n + 1) fun _=>0
noncomputable def getX (x : DX) (k : Str) (es : List (DX × Str × Option D)) : Option (Option D):=om (findB (fun p=>bA (seq p.2.1 k) (sameDX p.1 x)) es) fun p=>p.2.2
noncomputable def ltL : List Nat → List Nat → Bool:=@List.rec Nat (fun _=>List Nat → Bool) (fun b=>@List.casesOn Nat (fun _=>Bool) b false fun _ _=>true) fun a _ ih b=>@List.casesOn Nat (fun _=>Bool) b false fun b y=>bI (Nat.blt a b) true (bA (Nat.beq a b) (ih y))
noncomputable def ltS (a b : Str) : Bool:=ltL a.cps.toList b.cps.toList
noncomputable def truth (v : SV) : Option Bool:=vD v fun x=>@D.casesOn (fun _=>Option Bool) x (some false) some (fun _=>none) (fun _=>none) (fun _=>none)
noncomputable def allD : List SV → Option (List D):=@List.rec SV (fun _=>Option (List D)) (some []) fun v _ ih=>vD v fun x=>om ih (x :: ·)
noncomputable def mkL (vs : List SV) : SO:=@Option.rec (List D) (fun _=>SO) (.ls vs) .dl (allD vs)
noncomputable def mkT (vs : List SV) : SV:=@Option.rec (List D) (fun _=>SV) (.tup vs) (fun ds=>.d (.tup ds)) (allD vs)
noncomputable def lsOf {γ : Type} (o : SO) (f : List SV → Option γ) : Option γ:=oL o (fun xs=>f (K.lmap .d xs)) f fun _ _ _=>none
noncomputable def itemsOf (σ : Sto) (v : SV) : Option (List SV):=vK v (fun x=>dK x (fun _=>none) (fun _=>none) fun xs=>some (K.lmap .d xs)) (fun i=>aO σ i fun o=>lsOf o some) some
noncomputable def catS (x : SO) (k : Nat) (be : List D) (m : LX) : Option SO:=oL x (fun xs=>l0 xs (gle k 1000 (some (.sy k be m)))) (fun _=>none) fun n al l=>gle (n + k) 1000 (some (.sy (n + k) (K.app al be) (.cat l m)))
noncomputable def catL (x : SO) (b : List SV) : Option SO:=lsOf x fun a=>glen (K.app a b) 1000 (some (.ls (K.app a b)))
noncomputable def catO (x y : SO) : Option SO:=oL y (fun xs=>catL x (K.lmap .d xs)) (catL x) (catS x)
noncomputable def bAdd (a b : SV) (σ : Sto) : Option (SV × Sto):=vK a (fun x=>dK x (fun x=>vInt b fun y=>some (.d (.int (x + y)),σ)) (fun x=>vStr b fun y=>gle (x.length + y.length) 1000 (some (.d (.str (x ++ y)),σ))) fun _=>none)
  (fun i=>vRef b fun j=>aO σ i fun x=>aO σ j fun y=>oo (catO x y) fun o=>nw σ o) fun _=>none
noncomputable def bMul (a b : SV) (σ : Sto) : Option (SV × Sto):=vInt b fun y=>vK a (fun x=>dK x (fun x=>if x.natAbs < 2 ^ 60 ∨ y.natAbs < 2 ^ 60 then some (.d (.int (x * y)),σ) else none)
  (fun x=>if 0 ≤ y ∧ y ≤ 100 ∧ x.length ≤ 10 then some (.d (.str (PySem.Txt.mul x y)),σ) else none) fun _=>none)
  (fun i=>aDl σ i fun xs=>if 0 ≤ y ∧ y ≤ 100 then glen xs 10 (nw σ (.dl (List.replicate y.toNat xs).flatten)) else none) fun _=>none
noncomputable def bI2 (a b : SV) (σ : Sto) (f : Int → Int → Option Int) : Option (SV × Sto):=vInt a fun x=>vInt b fun y=>om (f x y) fun z=>(.d (.int z),σ)
noncomputable def binop (op : Operator) (a b : SV) (σ : Sto) : Option (SV × Sto):=@Operator.casesOn (fun _=>Option (SV × Sto)) op (bAdd a b σ) (bI2 a b σ fun x y=>some (x - y)) (bMul a b σ) none none
  (bI2 a b σ fun x y=>if 0 < y then some (Int.fmod x y) else none) (bI2 a b σ fun x y=>if x = 10 ∧ 0 ≤ y ∧ y ≤ 40 then some (x ^ y.toNat) else none) none none none none none (bI2 a b σ fun x y=>if 0 < y ∧ y < 2 ^ 200 then some (Int.fdiv x y) else none)
noncomputable def okL : List Nat → Bool:=@List.rec Nat (fun _=>Bool) true fun c _ ih=>bA (Nat.blt c 1114112) ih
noncomputable def okAll (f : D → Bool) : List D → Bool:=@List.rec D (fun _=>Bool) true fun x _ ih=>bA (f x) ih
noncomputable def okD : Nat → D → Bool:=@Nat.rec (fun _=>D → Bool) (fun x=>@D.casesOn (fun _=>Bool) x true (fun _=>true) (fun _=>true) (fun s=>okL s.cps.toList) fun _=>false) fun _ ih x=>@D.casesOn (fun _=>Bool) x true (fun _=>true) (fun _=>true) (fun s=>okL s.cps.toList) (okAll ih)
noncomputable def pdD : D → PyData:=@D.rec (fun _=>PyData) (fun _=>List PyData) .none .bool .int .str (fun _ ih=>.tuple ih) [] fun _ _ a r=>a :: r
noncomputable def pdDs : List D → List PyData:=K.lmap pdD
noncomputable def pdAll (f : SV → Option PyData) : List SV → Option (List PyData):=@List.rec SV (fun _=>Option (List PyData)) (some []) fun v _ ih=>oo (f v) fun y=>om ih fun l=>y :: l
noncomputable def pdX (x : D) : Option PyData:=gd (okD 8 x) (some (pdD x))
noncomputable def pdL (xs : List D) : Option PyData:=gd (okAll (okD 8) xs) (some (.list (pdDs xs)))
noncomputable def pdV (σ : Sto) : Nat → SV → Option PyData:=@Nat.rec (fun _=>SV → Option PyData) (fun v=>vD v pdX) fun _ ih v=>vK v pdX (fun i=>aL σ i pdL (fun xs=>om (pdAll ih xs) .list) fun _ _ _=>none) fun _=>none
noncomputable def eqP : PyData → PyData → Bool :=
  @PyData.rec (fun _=>PyData → Bool) (fun _=>List PyData → Bool) (fun _=>PUnit) (fun _=>PUnit)
    (fun b=>@PyData.casesOn (fun _=>Bool) b true (fun _=>false) (fun _=>false) (fun _=>false) (fun _=>false) (fun _=>false) (fun _=>false))
    (fun a b=>@PyData.casesOn (fun _=>Bool) b false (fun b=>a == b) (fun j=>(if a then 1 else 0) == j) (fun _=>false) (fun _=>false) (fun _=>false) (fun _=>false))
    (fun a b=>@PyData.casesOn (fun _=>Bool) b false (fun b=>a == (if b then 1 else 0)) (fun j=>a == j) (fun _=>false) (fun _=>false) (fun _=>false) (fun _=>false))
    (fun a b=>@PyData.casesOn (fun _=>Bool) b false (fun _=>false) (fun _=>false) (fun b=>seq a b) (fun _=>false) (fun _=>false) (fun _=>false))
    (fun _ ih b=>@PyData.casesOn (fun _=>Bool) b false (fun _=>false) (fun _=>false) (fun _=>false) ih (fun _=>false) (fun _=>false))
    (fun _ ih b=>@PyData.casesOn (fun _=>Bool) b false (fun _=>false) (fun _=>false) (fun _=>false) (fun _=>false) ih (fun _=>false))
    (fun _ _ _=>false)
    (fun b=>@List.casesOn PyData (fun _=>Bool) b true (fun _ _=>false)) (fun _ _ ia ix b=>@List.casesOn PyData (fun _=>Bool) b false (fun b y=>bA (ia b) (ix y)))
    ⟨⟩ (fun _ _ _ _=>⟨⟩) (fun _ _ _ _=>⟨⟩)
noncomputable def eqDeep (k : Nat) (σ : Sto) (a b : SV) : Option Bool:=oo (pdV σ k a) fun x=>om (pdV σ k b) fun y=>eqP x y
noncomputable def hasSy (σ : Sto) (v : SV) : Bool:=@Option.rec Bool (fun _=>Bool) false (fun b=>b) (vRef v fun i=>aSy σ i fun _ _ _=>some true)
noncomputable def eqSy (F : Facts) (σ : Sto) (a b : SV) : Option Bool:=vRef a fun i=>vRef b fun j=>aSy σ i fun _ al l=>gd (okAll (okD 8) al)
  (aL σ j (fun ys=>gd (okAll (okD 8) ys) (eqX l (.lit ys) F.eqs)) (fun _=>none) fun _ be m=>gd (okAll (okD 8) be) (eqX l m F.eqs))
noncomputable def eqOne (F : Facts) (σ : Sto) (a b : SV) : Option Bool:=bI (hasSy σ a || hasSy σ b) (eqSy F σ a b) (eqDeep 3 σ a b)
noncomputable def eqAll (F : Facts) (σ : Sto) : List SV → List SV → Option Bool:=@List.rec SV (fun _=>List SV → Option Bool) (fun ys=>l0 ys (some true)) fun a _ ih ys=>lc ys fun b y=>oo (eqOne F σ a b) fun q=>gd q (ih y)
noncomputable def lsO (σ : Sto) (v : SV) : Option (List SV):=vRef v fun i=>aL σ i (fun _=>none) some fun _ _ _=>none
noncomputable def eqLs (F : Facts) (σ : Sto) (a b : SV) : Option Bool:=oo (lsO σ a) fun xs=>oo (lsO σ b) fun ys=>eqAll F σ xs ys
noncomputable def eqV (F : Facts) (σ : Sto) (a b : SV) : Option Bool:=bI (lsO σ a).isSome (eqLs F σ a b) (eqOne F σ a b)
noncomputable def anyEq (x : PyData) : List PyData → Bool:=@List.rec PyData (fun _=>Bool) false fun y _ ih=>bI (eqP y x) true ih
noncomputable def idxP (x : PyData) : List PyData → Nat → Option Nat:=@List.rec PyData (fun _=>Nat → Option Nat) (fun _=>none) fun y _ ih k=>bI (eqP y x) (some k) (ih (k + 1))
noncomputable def memP (σ : Sto) (a b : SV) : Option Bool:=oo (pdV σ 4 a) fun x=>oo (pdV σ 4 b) fun p=>@PyData.casesOn (fun _=>Option Bool) p none (fun _=>none) (fun _=>none) (fun _=>none) (fun xs=>some (anyEq x xs)) (fun xs=>some (anyEq x xs)) (fun _=>none)
noncomputable def memS (F : Facts) (a : SV) (al : List D) (l : LX) : Option Bool:=vD a fun x=>gd (okAll (okD 8) al) (gd (okD 8 x) (om (idxX l x F.idx) fun q=>q.isSome))
noncomputable def memV (F : Facts) (σ : Sto) (a b : SV) : Option Bool:=vK b (fun _=>memP σ a b) (fun j=>aO σ j fun o=>@SO.casesOn (fun _=>Option Bool) o (fun _=>memP σ a b) (fun _ al l=>memS F a al l) (fun _=>memP σ a b) (fun es=>vStr a fun x=>some (lk x es).isSome) (fun _ _=>none) (fun _=>none) (fun _=>none) (fun _=>none) (fun _ _=>none)) fun _=>none
noncomputable def isNoneV (v : SV) : Bool:=@SV.casesOn (fun _=>Bool) v (fun x=>@D.casesOn (fun _=>Bool) x true (fun _=>false) (fun _=>false) (fun _=>false) (fun _=>false)) (fun _=>false) (fun _=>false) (fun _=>false) (fun _=>false) (fun _=>false)
noncomputable def ordI (op : CmpOp) (x y : Int) : Option Bool:=@CmpOp.casesOn (fun _=>Option Bool) op none none (some (decide (x < y))) (some (decide (x ≤ y))) (some (decide (y < x))) (some (decide (y ≤ x))) none none none none
noncomputable def ordS (op : CmpOp) (x y : Str) : Option Bool:=@CmpOp.casesOn (fun _=>Option Bool) op none none (some (ltS x y)) none (some (ltS y x)) none none none none none
noncomputable def ordV (op : CmpOp) (a b : SV) : Option Bool:=vD a fun x=>dK x (fun x=>vInt b fun y=>ordI op x y) (fun x=>vStr b fun y=>ordS op x y) fun _=>none
noncomputable def cmp (F : Facts) (op : CmpOp) (a b : SV) (σ : Sto) : Option Bool:=@CmpOp.casesOn (fun _=>Option Bool) op (eqV F σ a b) (om (eqV F σ a b) fun z=>!z) (ordV .Lt a b) (ordV .LtE a b) (ordV .Gt a b) (ordV .GtE a b) (gd (isNoneV b) (some (isNoneV a))) (gd (isNoneV b) (some (!isNoneV a))) (memV F σ a b) (om (memV F σ a b) fun z=>!z)
noncomputable def ix {γ : Type} (i : Int) (f : Nat → Option γ) : Option γ:=@Int.rec (fun _=>Option γ) (fun n=>gd (Nat.blt n 4611686018427387904) (f n)) (fun _=>none) i
theorem Sat.ix {γ : Type} {i : Int} {f : Nat → Option γ} {P : Int → γ → Prop} (k : ∀ n : Nat,n < 4611686018427387904 → Sat (f n) (P n)) : Sat (ix i f) (P i):=by
  cases i
  · exact .gd fun h=>k _ (Nat.blt_eq.mp h)
  · exact .no
noncomputable def atO (F : Facts) (o : SO) (k : Nat) : Option SV:=oL o (fun xs=>om (K.nth xs k) .d) (fun xs=>K.nth xs k) fun _ _ l=>om (atX l k F.ats) .d
noncomputable def sub (F : Facts) (v i : SV) (σ : Sto) : Option SV:=vK v (fun x=>vInt i fun k=>ix k fun k=>dK x (fun _=>none) (fun s=>om (K.nth s.cps.toList k) fun c=>.d (.str ⟨#[c]⟩)) fun xs=>om (K.nth xs k) .d)
  (fun r=>vD i fun x=>dK x (fun k=>ix k fun k=>aO σ r fun o=>atO F o k) (fun x=>aDi σ r fun es=>lk x es) fun _=>none) fun xs=>vInt i fun k=>ix k fun k=>K.nth xs k
noncomputable def cut {α : Type} (lo hi : Option Int) (xs : List α) : Option (List α) :=
  let l:=lo.getD 0
  let h:=hi.getD (K.len xs)
  if 0 ≤ l ∧ l ≤ h ∧ h ≤ (K.len xs : Int) ∧ K.len xs ≤ 1000 then some ((xs.drop l.toNat).take (h - l).toNat) else none
noncomputable def revO (o : SO) : Option SO:=oL o (fun xs=>glen xs 1000 (some (.dl xs.reverse))) (fun xs=>glen xs 1000 (some (.ls xs.reverse))) fun n al l=>gle n 1000 (some (.sy n al (.rev l)))
noncomputable def cutX (n : Nat) (al : List D) (l : LX) (lo hi : Option Int) : Option SO:=@Option.rec Int (fun _=>Option SO) (oo hi fun b=>if 0 ≤ b ∧ b ≤ 1000 ∧ n ≤ 1000 then some (.sy n al (.take b.toNat l)) else none)
  (fun a=>@Option.rec Int (fun _=>Option SO) (if 0 ≤ a ∧ a ≤ 1000 ∧ n ≤ 1000 then some (.sy n al (.drop a.toNat l)) else none) (fun _=>none) hi) lo
noncomputable def pickL {α : Type} (lo hi : Option Int) (xs : List α) : List α:=(xs.drop (PySem.W.kms_lo lo (K.len xs))).take (PySem.W.kms_hi hi (K.len xs) - PySem.W.kms_lo lo (K.len xs))
noncomputable def cutO (lo hi : Option Int) (o : SO) : Option SO:=oL o (fun xs=>glen xs 1000 (some (.dl (pickL lo hi xs)))) (fun xs=>glen xs 1000 (some (.ls (pickL lo hi xs)))) fun n al l=>cutX n al l lo hi
noncomputable def slice (v : SV) (lo hi : Option Int) (σ : Sto) : Option (SV × Sto):=vK v (fun x=>dK x (fun _=>none) (fun s=>om (cut lo hi s.cps.toList) fun x=>(.d (.str ⟨x.toArray⟩),σ)) fun _=>none) (fun r=>aO σ r fun o=>oo (cutO lo hi o) fun o=>nw σ o) fun _=>none
noncomputable def sliceR (v : SV) (σ : Sto) : Option (SV × Sto):=vRef v fun r=>aO σ r fun o=>oo (revO o) fun o=>nw σ o
noncomputable def fmtX (i : Int) : Option Str:=if 0 ≤ i ∧ i ≤ 9 then some ⟨#[48 + i.toNat]⟩ else if -9 ≤ i ∧ i < 0 then some ⟨#[45,48 + (-i).toNat]⟩ else none
noncomputable def strI (i : Int) : Str:=Str.ofString (toString i)
noncomputable def sort2 (es : List (Str × SV)) : Option (List Str):=lc es fun a r=>lr r (some [a.1]) fun b r=>l0 r (bI (ltS b.1 a.1) (some [b.1,a.1]) (gd (ltS a.1 b.1) (some [a.1,b.1])))
noncomputable def joinS (sep : List Nat) : List D → Option (List Nat):=@List.rec D (fun _=>Option (List Nat)) (some []) fun x r ih=>dK x (fun _=>none) (fun s=>@List.rec D (fun _=>Option (List Nat)) (some s.cps.toList) (fun _ _ _=>om ih fun t=>K.app s.cps.toList (K.app sep t)) r) fun _=>none
noncomputable def starts : List Nat → List Nat → Bool:=fun x y=>@List.rec Nat (fun _=>List Nat → Bool) (fun _=>true) (fun b _ ih x=>@List.casesOn Nat (fun _=>Bool) x false fun a x=>bA (Nat.beq a b) (ih x)) y x
noncomputable def lenO (F : Facts) (o : SO) : Option Nat:=oL o (fun xs=>some (K.len xs)) (fun xs=>some (K.len xs)) fun n _ l=>gle n 5000 (lenX F l)
noncomputable def lenV (F : Facts) (σ : Sto) (v : SV) : Option Nat:=vK v (fun x=>dK x (fun _=>none) (fun s=>glen s.cps.toList 5000 (some (K.len s.cps.toList))) fun xs=>glen xs 5000 (some (K.len xs)))
  (fun i=>aO σ i fun o=>oe (oo (lenO F o) fun k=>gle k 5000 (some k)) (oDi o (fun es=>glen es 5000 (some (K.len es))) (fun _=>none) fun _ _=>none)) fun xs=>glen xs 5000 (some (K.len xs))
noncomputable def isCls (c : Nat) : Bool:=Nat.beq c 275 || (Nat.beq c 304 || Nat.beq c 503)
noncomputable def bIsin (a b : SV) (σ : Sto) : Option (SV × Sto):=vRef a fun i=>@SV.casesOn (fun _=>Option (SV × Sto)) b (fun _=>none) (fun _=>none) (fun _=>none) (fun c=>aIn σ i fun c' _ _=>gd (isCls c) (gd (isCls c') (some (.d (.bool (Nat.beq c' c)),σ)))) (fun _=>none) fun _=>none
noncomputable def bfn (F : Facts) (id : Bi) (args : List SV) (σ : Sto) : Option (SV × Sto):=@Bi.casesOn (fun _=>Option (SV × Sto)) id (l1 args fun v=>om (lenV F σ v) fun n=>(.d (.int n),σ))
  (l2 args fun a b=>bI2 a b σ fun a b=>some (if b > a then b else a)) (l1 args fun a=>vInt a fun a=>some (.d (.int (if a < 0 then -a else a)),σ)) (l2 args fun a b=>bIsin a b σ)
  (l1 args fun v=>vRef v fun i=>aDi σ i fun es=>oo (sort2 es) fun l=>nw σ (.dl (K.lmap .str l)))
noncomputable def roomO (o : SO) (x : Option (SV × Sto)) : Option (SV × Sto):=oL o (fun xs=>glen xs 1000 x) (fun xs=>glen xs 1000 x) fun n _ _=>gle n 1000 x
noncomputable def tyf (n : Ty) (args : List SV) (σ : Sto) : Option (SV × Sto):=l1 args fun v=>@Ty.casesOn (fun _=>Option (SV × Sto)) n (vRef v fun i=>aO σ i fun o=>roomO o (nw σ o)) (vRef v fun i=>aDi σ i fun es=>glen es 1000 (nw σ (.di es)))
  (vInt v fun i=>if i.natAbs < 2 ^ 100 then some (.d (.str (strI i)),σ) else none) none (vD v fun x=>@D.casesOn (fun _=>Option (SV × Sto)) x none (fun b=>some (.d (.bool b),σ)) (fun _=>none) (fun _=>none) fun _=>none)
noncomputable def idxS (σ : Sto) (y v : SV) (t : Bool) : Option Nat:=oo (pdV σ 4 y) fun x=>oo (pdV σ 4 v) fun p =>
  oo (@PyData.casesOn (fun _=>Option (List PyData)) p none (fun _=>none) (fun _=>none) (fun _=>none) (fun xs=>bI t none (some xs)) (fun xs=>bI t (some xs) none) fun _=>none) fun xs=>oo (idxP x xs 0) fun k=>gle k 5000 (some k)
noncomputable def idxU (F : Facts) (y : SV) (n : Nat) (al : List D) (l : LX) : Option Nat:=vD y fun x=>gd (okAll (okD 8) al) (gd (okD 8 x) (gle n 5000 (oo (idxX l x F.idx) fun q=>q)))
noncomputable def idxL (F : Facts) (σ : Sto) (y v : SV) : Option Nat:=vRef v fun i=>aO σ i fun o=>oL o (fun _=>idxS σ y (.ref i) false) (fun _=>idxS σ y (.ref i) false) fun n al l=>idxU F y n al l
inductive Me where | append | extend | lpop | reverse | lindex | get | setdefault | dpop | tindex | rjust | join | startswith | own (f : Nat)
noncomputable def methT : List (Str × Nat):=[(Str.ofString "exact",467),(Str.ofString "partial",474),(Str.ofString "partial_of",481),(Str.ofString "positional",488),(Str.ofString "is_free",495),(Str.ofString "rest",500)]
noncomputable def methAt (c : Nat) (x : Str) : Option Nat:=gd (Nat.beq c 503) (lk x methT)
noncomputable def listT : List (Str × Me):=[(Str.ofString "append",.append),(Str.ofString "extend",.extend),(Str.ofString "pop",.lpop),(Str.ofString "reverse",.reverse),(Str.ofString "index",.lindex)]
noncomputable def dictT : List (Str × Me):=[(Str.ofString "get",.get),(Str.ofString "setdefault",.setdefault),(Str.ofString "pop",.dpop)]
noncomputable def strT : List (Str × Me):=[(Str.ofString "rjust",.rjust),(Str.ofString "join",.join),(Str.ofString "startswith",.startswith)]
noncomputable def tupT : List (Str × Me):=[(Str.ofString "index",.tindex)]
noncomputable def methOf (v : SV) (x : Str) (σ : Sto) : Option Me:=vK v (fun d=>dK d (fun _=>none) (fun _=>lk x strT) fun _=>lk x tupT) (fun i=>aO σ i fun o =>
  @SO.casesOn (fun _=>Option Me) o (fun _=>lk x listT) (fun _ _ _=>lk x listT) (fun _=>lk x listT) (fun _=>lk x dictT) (fun c d=>oo (methAt c x) fun f=>aDi σ d fun es=>gd (lk x es).isNone (some (.own f))) (fun _=>lk x dictT) (fun _=>lk x listT) (fun _=>none) fun _ _=>none) fun _=>none
noncomputable def snocO (x : SO) (y : SV) : Option SO:=oL x (fun xs=>glen xs 1000 (some (@SV.casesOn (fun _=>SO) y (fun y=>.dl (K.app xs [y])) (fun i=>.ls (K.app (K.lmap .d xs) [.ref i])) (fun l=>.ls (K.app (K.lmap .d xs) [.tup l])) (fun a=>.ls (K.app (K.lmap .d xs) [.top a])) (fun n=>.ls (K.app (K.lmap .d xs) [.ty n])) (fun b=>.ls (K.app (K.lmap .d xs) [.bi b])))))
  (fun xs=>glen xs 1000 (some (.ls (K.app xs [y])))) fun n al l=>vD y fun y=>gle n 1000 (some (.sy (n + 1) (y :: al) (.cat l (.lit [y]))))
noncomputable abbrev An:=Option (SV × Sto)
noncomputable def mAppend (i : Nat) (y : SV) (σ : Sto) : An:=aO σ i fun o=>oo (snocO o y) fun o'=>upd σ i o' (.d .none)
noncomputable def mExtend (i : Nat) (w : SV) (σ : Sto) : An:=vRef w fun j=>gd (!Nat.beq i j) (aO σ i fun x=>aO σ j fun y=>oo (catO x y) fun o=>upd σ i o (.d .none))
noncomputable def mPop (i : Nat) (σ : Sto) : An:=aDl σ i fun xs=>oo xs.getLast? fun y=>glen xs 5000 (upd σ i (.dl xs.dropLast) (.d y))
noncomputable def mReverse (i : Nat) (σ : Sto) : An:=aDl σ i fun xs=>glen xs 1000 (upd σ i (.dl xs.reverse) (.d .none))
noncomputable def mGet (F : Facts) (i : Nat) (w : SV) (σ : Sto) : An:=vStr w fun k=>aDx σ i (fun es=>some ((lk k es).getD (.d .none),σ)) (fun x=>om (getX x k F.gets) fun y=>(.d (y.getD .none),σ)) fun _ _=>none
noncomputable def mSetdef (F : Facts) (i : Nat) (w y : SV) (σ : Sto) : An:=vStr w fun k=>aDx σ i (fun _=>none) (fun x=>gle (cntX x) 100 (oo (getX x k F.gets) fun z=>@Option.rec D (fun _=>An) (vD y fun y=>upd σ i (.sd (.setd x k y)) (.d y)) (fun z=>some (.d z,σ)) z)) fun _ _=>none
noncomputable def mDpop (i : Nat) (w : SV) (σ : Sto) : An:=vStr w fun k=>aDi σ i fun es=>glen es 1000 (oo (lk k es) fun z=>upd σ i (.di (del k es)) z)
noncomputable def intA (k : Option Nat) (σ : Sto) : An:=om k fun k=>(.d (.int (k : Int)),σ)
noncomputable def mRjust (s : Str) (a b : SV) (σ : Sto) : An:=vInt a fun w=>vStr b fun f=>l1 f.cps.toList fun c=>if -1000 ≤ w ∧ w ≤ 1000 then some (.d (.str ⟨(K.app (List.replicate (w.toNat - s.cps.toList.length) c) s.cps.toList).toArray⟩),σ) else none
noncomputable def mJoin (s : Str) (w : SV) (σ : Sto) : An:=vRef w fun i=>aDl σ i fun xs=>oo (joinS s.cps.toList xs) fun l=>glen l 1000 (glen s.cps.toList 10 (glen xs 100 (some (.d (.str ⟨l.toArray⟩),σ))))
noncomputable def mStarts (s : Str) (w : SV) (σ : Sto) : An:=vStr w fun p=>some (.d (.bool (starts s.cps.toList p.cps.toList)),σ)
noncomputable def bcall (F : Facts) (me : Me) (v : SV) (args : List SV) (σ : Sto) : An:=@Me.casesOn (fun _=>An) me
  (vRef v fun i=>l1 args fun y=>mAppend i y σ) (vRef v fun i=>l1 args fun y=>mExtend i y σ) (vRef v fun i=>l0 args (mPop i σ)) (vRef v fun i=>l0 args (mReverse i σ)) (l1 args fun y=>intA (idxL F σ y v) σ)
  (vRef v fun i=>l1 args fun w=>mGet F i w σ) (vRef v fun i=>l2 args fun w y=>mSetdef F i w y σ) (vRef v fun i=>l1 args fun w=>mDpop i w σ) (l1 args fun y=>intA (idxS σ y v true) σ)
  (vStr v fun s=>l2 args fun a b=>mRjust s a b σ) (vStr v fun s=>l1 args fun w=>mJoin s w σ) (vStr v fun s=>l1 args fun w=>mStarts s w σ) fun _=>none
noncomputable def attrsOf (c : Nat) : List Str:=bI (Nat.beq c 304) [Str.ofString "attrs",Str.ofString "items",Str.ofString "kind",Str.ofString "shared",Str.ofString "loose"]
  (bI (Nat.beq c 275) [Str.ofString "attrs",Str.ofString "kind"] (bI (Nat.beq c 503) [Str.ofString "tags",Str.ofString "used",Str.ofString "places",Str.ofString "formals"] []))
noncomputable def getA (v : SV) (x : Str) (σ : Sto) : Option SV:=vRef v fun i=>aIn σ i fun c _ es=>gd (inS x (attrsOf c)) (lk x es)
noncomputable def setA (v : SV) (x : Str) (y : SV) (σ : Sto) : Option Sto:=vRef v fun i=>aIn σ i fun c d es=>gd (inS x (attrsOf c)) (glen es 100 (some (K.lset σ d (.di (put x y es)))))
noncomputable def setI (v i y : SV) (σ : Sto) : Option Sto:=vRef v fun r=>vD i fun x=>dK x (fun k=>vD y fun y=>ix k fun k=>aDl σ r fun xs=>gle (k + 1) (K.len xs) (some (K.lset σ r (.dl (K.lset xs k y))))) (fun x=>aDi σ r fun es=>glen es 100 (some (K.lset σ r (.di (put x y es))))) fun _=>none
noncomputable def refsV : SV → List Nat :=
  @SV.rec (fun _=>List Nat) (fun _=>List Nat) (fun _=>[]) (fun i=>[i]) (fun _ ih=>ih) (fun _=>[]) (fun _=>[]) (fun _=>[]) [] fun _ _ a b=>K.app a b
noncomputable def refsL : List SV → List Nat:=@List.rec SV (fun _=>List Nat) [] fun v _ ih=>K.app (refsV v) ih
noncomputable def refsE : List (Str × SV) → List Nat:=@List.rec (Str × SV) (fun _=>List Nat) [] fun p _ ih=>K.app (refsV p.2) ih
noncomputable def kids (o : SO) : List Nat:=@SO.casesOn (fun _=>List Nat) o (fun _=>[]) (fun _ _ _=>[]) refsL refsE (fun _ d=>[d]) (fun _=>[]) (fun _=>[]) (fun _=>[]) (fun _ rs=>rs)
noncomputable def refsK : Sto → List Nat:=@List.rec SO (fun _=>List Nat) [] fun o _ ih=>K.app (kids o) ih
noncomputable def hasN (i : Nat) : List Nat → Bool:=@List.rec Nat (fun _=>Bool) false fun j _ ih=>bI (Nat.beq j i) true ih
noncomputable def dfs (kd : SO → List Nat) (σ : Sto) : Nat → List Nat → List Nat → List Nat :=
  @Nat.rec (fun _=>List Nat → List Nat → List Nat) (fun _ acc=>acc) fun _ ih l acc=>@List.casesOn Nat (fun _=>List Nat) l acc fun i r=>bI (hasN i acc) (ih r acc) (ih (K.app (@Option.rec SO (fun _=>List Nat) [] kd (K.nth σ i)) r) (i :: acc))
noncomputable def posN (i : Nat) : List Nat → Nat → Option Nat:=@List.rec Nat (fun _=>Nat → Option Nat) (fun _=>none) fun j _ ih k=>bI (Nat.beq j i) (some k) (ih (k + 1))
noncomputable def mapM {α β : Type} (f : α → Option β) : List α → Option (List β):=@List.rec α (fun _=>Option (List β)) (some []) fun a _ ih=>oo (f a) fun b=>om ih (b :: ·)
noncomputable def mapV (f : Nat → Option Nat) : SV → Option SV :=
  @SV.rec (fun _=>Option SV) (fun _=>Option (List SV)) (fun x=>some (.d x)) (fun i=>om (f i) .ref) (fun _ ih=>om ih .tup) (fun a=>some (.top a)) (fun n=>some (.ty n)) (fun b=>some (.bi b)) (some []) fun _ _ a b=>oo a fun v=>om b (v :: ·)
noncomputable def mapVs (f : Nat → Option Nat) : List SV → Option (List SV):=mapM (mapV f)
noncomputable def mapE (f : Nat → Option Nat) : List (Str × SV) → Option (List (Str × SV)):=mapM fun p=>om (mapV f p.2) fun v=>(p.1,v)
noncomputable def mapO (f : Nat → Option Nat) (o : SO) : Option SO :=
  @SO.casesOn (fun _=>Option SO) o (fun x=>some (.dl x)) (fun n al l=>some (.sy n al l)) (fun xs=>om (mapVs f xs) .ls) (fun es=>om (mapE f es) .di) (fun c d=>om (f d) (.inst c)) (fun x=>some (.sd x)) (fun x=>some (.bd x)) (fun x=>some (.any x)) (fun k rs=>om (mapM f rs) (.as k))
noncomputable def isV (o : SO) : Bool:=@SO.casesOn (fun _=>Bool) o (fun _=>false) (fun _ _ _=>false) (fun _=>false) (fun _=>false) (fun c _=>Nat.beq c 304) (fun _=>false) (fun _=>false) (fun _=>false) (fun _ _=>false)
noncomputable def anyK (o : SO) : Option Nat:=@SO.casesOn (fun _=>Option Nat) o (fun _=>none) (fun _ _ _=>none) (fun _=>none) (fun _=>none) (fun _ _=>none) (fun _=>none) (fun _=>none) some (fun _ _=>none)
noncomputable def frzO (z : Bool) (f : Nat → Option Nat) (j : Nat) (o : SO) : Option SO:=bI z (bI (isV o) (some (.any j)) (gd (anyK o).isNone (mapO f o))) (mapO f o)
noncomputable def pickZ (z : Bool) (f : Nat → Option Nat) (σ : Sto) : List Nat → Nat → Option Sto:=@List.rec Nat (fun _=>Nat → Option Sto) (fun _=>some []) fun i _ ih j=>aO σ i fun o=>oo (frzO z f j o) fun o'=>om (ih (j + 1)) (o' :: ·)
noncomputable def restr (π : List Nat) (σ : Sto) : Option Sto:=pickZ false (fun i=>posN i π 0) σ π 0
noncomputable def backF (π : List Nat) (n k : Nat) (j : Nat) : Option Nat:=oe (K.nth π j) (some (n + (j - k)))
noncomputable def setAll {α : Type} : List Nat → List α → List α → List α:=@List.rec Nat (fun _=>List α → List α → List α) (fun loc σ=>K.app σ loc) fun i _ ih loc σ=>@List.casesOn α (fun _=>List α) loc σ fun o loc=>ih loc (K.lset σ i o)
noncomputable abbrev Fn:=List SV → Sto → An
noncomputable def gcπ (k : Nat) (v : SV) (σ : Sto) : List Nat:=K.rv (dfs kids σ 400 (K.app (refsK (σ.take k)) (refsV v)) (K.rv (List.range k)))
noncomputable def gc (k : Nat) (v : SV) (σ : Sto) : An:=oo (mapV (fun i=>posN i (gcπ k v σ) 0) v) fun v'=>om (restr (gcπ k v σ) σ) fun s=>(v',s)
noncomputable def kidsZ (z : Bool) (o : SO) : List Nat:=bI (bA z (isV o)) [] (kids o)
noncomputable def thawO (z : Bool) (f : Nat → Option Nat) (π : List Nat) (σ : Sto) (j : Nat) (o : SO) : Option SO:=bI z (@Option.rec Nat (fun _=>Option SO) (mapO f o) (fun k=>gd (Nat.beq k j) (oo (K.nth π j) fun i=>K.nth σ i)) (anyK o)) (mapO f o)
noncomputable def thawOs (z : Bool) (f : Nat → Option Nat) (π : List Nat) (σ : Sto) : Sto → Nat → Option Sto:=@List.rec SO (fun _=>Nat → Option Sto) (fun _=>some []) fun o _ ih j=>oo (thawO z f π σ j o) fun o'=>om (ih (j + 1)) (o' :: ·)
noncomputable def locAt (z : Bool) (F : Fn) (π : List Nat) (args : List SV) (σ : Sto) : An:=oo (mapVs (fun i=>posN i π 0) args) fun args'=>oo (pickZ z (fun i=>posN i π 0) σ π 0) fun loc=>ob (F args' loc) fun v loc' =>
  oo (mapV (backF π (K.len σ) (K.len π)) v) fun v'=>om (thawOs z (backF π (K.len σ) (K.len π)) π σ loc' 0) fun out=>(v',setAll π out σ)
noncomputable def localize (z : Bool) (F : Fn) : Fn:=fun args σ=>locAt z F (K.rv (dfs (kidsZ z) σ 400 (refsL args) [])) args σ
structure Memo where
  args : List SV
  st : Sto
  val : SV
  out : Sto
noncomputable def memo (l : List Memo) : Fn:=fun args σ=>om (findB (fun e=>bA (sameVs e.args args) (bA (sameS e.st σ) (Nat.beq (K.len e.st) (K.len σ)))) l) fun e=>(e.val,e.out)
structure Rec where
  ev : Scope → Expr → Rho → Sto → Option (SV × Sto)
  tst : Scope → Expr → Rho → Sto → Option (Bool × Sto)
  ex : Scope → List Stmt → Rho → Sto → Option (Out × Rho × Sto)
  call : Nat → Fn
structure Tab where
  need : Nat
  lite : Bool
  F : Facts
  call : Nat → Option (Bool × Fn)
  comp : Nat → Nat → Option (Scope × Expr × (Rho → Sto → Option (SV × Sto)))
  loop : Nat → Nat → Option (Scope × Stmt × (Rho → Sto → Option (Out × Rho × Sto)))
inductive Kd where
  | const (c : Const) | name (x : Str) | attr (o : Expr) (x : Str) (p : Pos) | call (f : Expr) (args : List Expr) (kws : List Keyword) (pos : Pos) | cmp (l : Expr) (ops : List CmpOp) (rs : List Expr) | bool (op : BoolOp) (es : List Expr) | un (op : UnaryOp) (e : Expr)
  | ife (t a b : Expr) | bin (l : Expr) (op : Operator) (r : Expr) | sub (v i : Expr) | list (es : List Expr) | tup (es : List Expr) | dict (ks : List (Option Expr)) (vs : List Expr) | joined (ps : List Expr) | slice (lo hi st : Option Expr) | comp (elt : Expr) (gs : List Comprehension) (sc : Scope) (pos : Pos) | fmt (e : Expr) (c : Int) (s : Option Expr) | oth
noncomputable def kindOf (e : Expr) : Kd:=@Expr.casesOn (fun _=>Kd) e (fun op es _=>.bool op es) (fun _ _ _=>.oth) (fun l op r _=>.bin l op r) (fun op e _=>.un op e) (fun _ _ _ _=>.oth) (fun t a b _=>.ife t a b) (fun ks vs _=>.dict ks vs) (fun _ _ _=>.oth) (fun e g sc p=>.comp e g sc p) (fun _ _ _ _=>.oth) (fun _ _ _ _ _=>.oth) (fun _ _ _ _=>.oth)
  (fun _ _=>.oth) (fun _ _=>.oth) (fun _ _=>.oth) (fun l ops rs _=>.cmp l ops rs) (fun f args kws p=>.call f args kws p) (fun e c s _=>.fmt e c s) (fun ps _=>.joined ps) (fun c _ _=>.const c) (fun o x p=>.attr o x p) (fun v i _=>.sub v i) (fun _ _=>.oth) (fun x _=>.name x) (fun es _=>.list es) (fun es _ _=>.tup es) (fun lo hi st _=>.slice lo hi st)
noncomputable def kUn (k : Kd) : Option (UnaryOp × Expr):=@Kd.casesOn (fun _=>Option (UnaryOp × Expr)) k (fun _=>none) (fun _=>none) (fun _ _ _=>none) (fun _ _ _ _=>none) (fun _ _ _=>none) (fun _ _=>none) (fun o e=>some (o,e)) (fun _ _ _=>none) (fun _ _ _=>none) (fun _ _=>none) (fun _=>none) (fun _=>none) (fun _ _=>none) (fun _=>none) (fun _ _ _=>none) (fun _ _ _ _=>none) (fun _ _ _=>none) none
noncomputable def kInt (k : Kd) : Option Int:=@Kd.casesOn (fun _=>Option Int) k (fun c=>@Const.casesOn (fun _=>Option Int) c none (fun _=>none) some (fun _=>none) (fun _ _=>none) (fun _=>none) (fun _=>none) none) (fun _=>none) (fun _ _ _=>none) (fun _ _ _ _=>none) (fun _ _ _=>none) (fun _ _=>none) (fun _ _=>none) (fun _ _ _=>none) (fun _ _ _=>none) (fun _ _=>none) (fun _=>none) (fun _=>none) (fun _ _=>none) (fun _=>none) (fun _ _ _=>none) (fun _ _ _ _=>none) (fun _ _ _=>none) none
noncomputable def kName (k : Kd) : Option Str:=@Kd.casesOn (fun _=>Option Str) k (fun _=>none) (some) (fun _ _ _=>none) (fun _ _ _ _=>none) (fun _ _ _=>none) (fun _ _=>none) (fun _ _=>none) (fun _ _ _=>none) (fun _ _ _=>none) (fun _ _=>none) (fun _=>none) (fun _=>none) (fun _ _=>none) (fun _=>none) (fun _ _ _=>none) (fun _ _ _ _=>none) (fun _ _ _=>none) none
noncomputable def kTup (k : Kd) : Option (List Expr):=@Kd.casesOn (fun _=>Option (List Expr)) k (fun _=>none) (fun _=>none) (fun _ _ _=>none) (fun _ _ _ _=>none) (fun _ _ _=>none) (fun _ _=>none) (fun _ _=>none) (fun _ _ _=>none) (fun _ _ _=>none) (fun _ _=>none) (fun _=>none) (some) (fun _ _=>none) (fun _=>none) (fun _ _ _=>none) (fun _ _ _ _=>none) (fun _ _ _=>none) none
noncomputable def kCall (k : Kd) : Option (Expr × List Expr × List Keyword × Pos):=@Kd.casesOn (fun _=>Option (Expr × List Expr × List Keyword × Pos)) k (fun _=>none) (fun _=>none) (fun _ _ _=>none) (fun f as ks p=>some (f,as,ks,p)) (fun _ _ _=>none) (fun _ _=>none) (fun _ _=>none) (fun _ _ _=>none) (fun _ _ _=>none) (fun _ _=>none) (fun _=>none) (fun _=>none) (fun _ _=>none) (fun _=>none) (fun _ _ _=>none) (fun _ _ _ _=>none) (fun _ _ _=>none) none
noncomputable def kStr (k : Kd) : Option Str:=@Kd.casesOn (fun _=>Option Str) k (fun c=>@Const.casesOn (fun _=>Option Str) c none (fun _=>none) (fun _=>none) (fun _=>none) (fun _ _=>none) some (fun _=>none) none) (fun _=>none) (fun _ _ _=>none) (fun _ _ _ _=>none) (fun _ _ _=>none) (fun _ _=>none) (fun _ _=>none) (fun _ _ _=>none) (fun _ _ _=>none) (fun _ _=>none) (fun _=>none) (fun _=>none) (fun _ _=>none) (fun _=>none) (fun _ _ _=>none) (fun _ _ _ _=>none) (fun _ _ _=>none) none
noncomputable def kJoin (k : Kd) : Option (List Expr):=@Kd.casesOn (fun _=>Option (List Expr)) k (fun _=>none) (fun _=>none) (fun _ _ _=>none) (fun _ _ _ _=>none) (fun _ _ _=>none) (fun _ _=>none) (fun _ _=>none) (fun _ _ _=>none) (fun _ _ _=>none) (fun _ _=>none) (fun _=>none) (fun _=>none) (fun _ _=>none) (some) (fun _ _ _=>none) (fun _ _ _ _=>none) (fun _ _ _=>none) none
noncomputable def kFmt (k : Kd) : Option (Expr × Int × Option Expr):=@Kd.casesOn (fun _=>Option (Expr × Int × Option Expr)) k (fun _=>none) (fun _=>none) (fun _ _ _=>none) (fun _ _ _ _=>none) (fun _ _ _=>none) (fun _ _=>none) (fun _ _=>none) (fun _ _ _=>none) (fun _ _ _=>none) (fun _ _=>none) (fun _=>none) (fun _=>none) (fun _ _=>none) (fun _=>none) (fun _ _ _=>none) (fun _ _ _ _=>none) (fun e c s=>some (e,c,s)) none
section
variable {γ : Type}
noncomputable def known (e : Expr) : Bool:=@Kd.casesOn (fun _=>Bool) (kindOf e) (fun _=>true) (fun _=>true) (fun _ _ _=>true) (fun _ _ _ _=>true) (fun _ _ _=>true) (fun _ _=>true) (fun _ _=>true) (fun _ _ _=>true) (fun _ _ _=>true) (fun _ _=>true) (fun _=>true) (fun _=>true) (fun _ _=>true) (fun _=>true) (fun _ _ _=>true) (fun _ _ _ _=>true) (fun _ _ _=>true) false
noncomputable def eName (e : Expr) (f : Str → γ) (d : γ) : γ:=@Option.rec Str (fun _=>γ) d f (kName (kindOf e))
noncomputable def eCall (e : Expr) (f : Expr → List Expr → List Keyword → Pos → γ) (d : γ) : γ:=@Option.rec (Expr × List Expr × List Keyword × Pos) (fun _=>γ) d (fun q=>f q.1 q.2.1 q.2.2.1 q.2.2.2) (kCall (kindOf e))
noncomputable def eAttr (e : Expr) (f : Expr → Str → Pos → γ) (d : γ) : γ:=@Kd.casesOn (fun _=>γ) (kindOf e) (fun _=>d) (fun _=>d) f (fun _ _ _ _=>d) (fun _ _ _=>d) (fun _ _=>d) (fun _ _=>d) (fun _ _ _=>d) (fun _ _ _=>d) (fun _ _=>d) (fun _=>d) (fun _=>d) (fun _ _=>d) (fun _=>d) (fun _ _ _=>d) (fun _ _ _ _=>d) (fun _ _ _=>d) d
noncomputable def eTup (e : Expr) (f : List Expr → γ) (d : γ) : γ:=@Option.rec (List Expr) (fun _=>γ) d f (kTup (kindOf e))
noncomputable def constV (c : Const) : Option SV:=@Const.casesOn (fun _=>Option SV) c (some (.d .none)) (fun b=>some (.d (.bool b))) (fun i=>some (.d (.int i))) (fun _=>none) (fun _ _=>none) (fun s=>some (.d (.str s))) (fun _=>none) none
noncomputable def nkK (k : NameKind) (l c f g d : γ) : γ:=@NameKind.casesOn (fun _=>γ) k l c f d g
end
noncomputable def nameV (sc : Scope) (x : Str) (ρ : Rho) : Option SV:=oo (lk x sc.names) fun k=>nkK k (lk x ρ) (lk x ρ) (lk x ρ) (glob x) none
section
variable (T : Tab) (R : Rec) (sc : Scope)
noncomputable def evL (ρ : Rho) : List Expr → Sto → Option (List SV × Sto):=@List.rec Expr (fun _=>Sto → Option (List SV × Sto)) (fun σ=>some ([],σ)) fun e _ ih σ=>gd (known e) (ob (R.ev sc e ρ σ) fun v σ=>ob (ih σ) fun vs σ=>some (v :: vs,σ))
noncomputable def evBool (op : BoolOp) (ρ : Rho) : List Expr → Sto → An:=@List.rec Expr (fun _=>Sto → An) (fun _=>none) fun e r ih σ=>@List.casesOn Expr (fun _=>An) r (R.ev sc e ρ σ) fun _ _=>ob (R.ev sc e ρ σ) fun v σ=>oo (truth v) fun b =>
  @BoolOp.casesOn (fun _=>An) op (bI b (ih σ) (some (v,σ))) (bI b (some (v,σ)) (ih σ))
noncomputable def evOptInt (ρ : Rho) (σ : Sto) (o : Option Expr) : Option (Option Int × Sto):=@Option.rec Expr (fun _=>Option (Option Int × Sto)) (some (none,σ)) (fun e=>ob (R.ev sc e ρ σ) fun v σ=>vInt v fun i=>some (some i,σ)) o
noncomputable def evPairs (ρ : Rho) : List (Option Expr) → List Expr → Sto → Option (List (Str × SV) × Sto):=@List.rec (Option Expr) (fun _=>List Expr → Sto → Option (List (Str × SV) × Sto)) (fun es σ=>l0 es (some ([],σ))) fun k _ ih es σ=>oo k fun k=>lc es fun e es =>
  ob (R.ev sc k ρ σ) fun x σ=>vStr x fun x=>ob (R.ev sc e ρ σ) fun v σ=>ob (ih es σ) fun r σ=>some ((x,v) :: r,σ)
noncomputable def evFmt (ρ : Rho) (σ : Sto) (e : Expr) (f : Str) : Option (List Nat × Sto):=gd (seq f (Str.ofString "x")) (ob (R.ev sc e ρ σ) fun v σ=>vInt v fun i=>om (fmtX i) fun t=>(t.cps.toList,σ))
noncomputable def evPart (ρ : Rho) (p : Expr) (σ : Sto) : Option (List Nat × Sto):=oe (om (kStr (kindOf p)) fun s=>(s.cps.toList,σ)) (oo (kFmt (kindOf p)) fun q=>gd (decide (q.2.1 = -1)) (oo q.2.2 fun s=>oo (kJoin (kindOf s)) fun ps=>l1 ps fun t=>oo (kStr (kindOf t)) fun f=>evFmt R sc ρ σ q.1 f))
noncomputable def evParts (ρ : Rho) : List Expr → Sto → Option (List Nat × Sto):=@List.rec Expr (fun _=>Sto → Option (List Nat × Sto)) (fun σ=>some ([],σ)) fun p _ ih σ=>ob (evPart R sc ρ p σ) fun t σ=>ob (ih σ) fun u σ=>some (K.app t u,σ)
noncomputable def evIfs (ρ : Rho) : List Expr → Sto → Option (Bool × Sto):=@List.rec Expr (fun _=>Sto → Option (Bool × Sto)) (fun σ=>some (true,σ)) fun e _ ih σ=>ob (R.tst sc e ρ σ) fun b σ=>bI b (ih σ) (some (false,σ))
noncomputable def stays (src : Option (Nat × SO)) (σ : Sto) : Bool:=@Option.rec (Nat × SO) (fun _=>Bool) true (fun p=>@Option.rec SO (fun _=>Bool) false (fun o=>sameO p.2 o) (K.nth σ p.1)) src
noncomputable def compL (x : Str) (ifs : List Expr) (elt : Expr) (ρ : Rho) (src : Option (Nat × SO)) : List SV → Sto → Option (List SV × Sto):=@List.rec SV (fun _=>Sto → Option (List SV × Sto)) (fun σ=>some ([],σ)) fun v _ ih σ=>ob (evIfs R sc ((x,v) :: ρ) ifs σ) fun b σ =>
  bI b (ob (R.ev sc elt ((x,v) :: ρ) σ) fun y σ=>gd (stays src σ) (ob (ih σ) fun ys σ=>some (y :: ys,σ))) (gd (stays src σ) (ih σ))
noncomputable def range (lo hi : Int) : List SV:=K.lmap (fun (k : Nat)=>.d (.int (lo + k))) (List.range (hi - lo).toNat)
end
inductive Src where
  | range (lo : Int) (n : Nat)
  | list (i : Nat) (o : SO) (xs : List SV)
  | sy (i n : Nat) (al : List D) (l : LX)
noncomputable def Src.items (r : Src) : List SV:=@Src.casesOn (fun _=>List SV) r (fun lo n=>Mine.range lo (lo + n)) (fun _ _ xs=>xs) fun _ _ _ _=>[]
noncomputable def Src.src (r : Src) : Option (Nat × SO):=@Src.casesOn (fun _=>Option (Nat × SO)) r (fun _ _=>none) (fun i o _=>some (i,o)) fun _ _ _ _=>none
section
variable (T : Tab) (R : Rec) (sc : Scope)
noncomputable def rangeS (lo hi : Int) : Option Src:=if -1000 ≤ lo ∧ lo ≤ 1000 ∧ -1000 ≤ hi ∧ hi ≤ 1000 then some (.range lo (hi - lo).toNat) else none
noncomputable def iterP (ρ : Rho) (e : Expr) (σ : Sto) : Option (Src × Sto):=gd (known e) (ob (R.ev sc e ρ σ) fun v σ=>vRef v fun i=>aL σ i (fun xs=>glen xs 1000 (some (.list i (.dl xs) (K.lmap .d xs),σ))) (fun xs=>glen xs 1000 (some (.list i (.ls xs) xs,σ))) fun n al l=>gle n 1000 (some (.sy i n al l,σ)))
noncomputable def isTy (n : Ty) : Bool:=@Ty.casesOn (fun _=>Bool) n false false false true false
noncomputable def isRange (f : Str) (ρ : Rho) : Bool:=bA (seq f (Str.ofString "range")) (@Option.rec SV (fun _=>Bool) false (fun v=>@SV.casesOn (fun _=>Bool) v (fun _=>false) (fun _=>false) (fun _=>false) (fun _=>false) isTy fun _=>false) (nameV sc f ρ))
noncomputable def isBi (b : Bi) : Bool:=@Bi.casesOn (fun _=>Bool) b true false false false false
noncomputable def isLen (f : Str) (ρ : Rho) : Bool:=bA (seq f (Str.ofString "len")) (@Option.rec SV (fun _=>Bool) false (fun v=>@SV.casesOn (fun _=>Bool) v (fun _=>false) (fun _=>false) (fun _=>false) (fun _=>false) (fun _=>false) isBi) (nameV sc f ρ))
noncomputable def iterR (ρ : Rho) (args : List Expr) (σ : Sto) : Option (Src × Sto):=lc args fun _ r=>lr r (ob (evL R sc ρ args σ) fun vs σ=>l1 vs fun a=>vInt a fun n=>om (rangeS 0 n) fun r=>(r,σ)) fun _ r=>l0 r (ob (evL R sc ρ args σ) fun vs σ=>l2 vs fun a b=>vInt a fun n=>vInt b fun m=>om (rangeS n m) fun r=>(r,σ))
noncomputable def eFn {γ : Type} (e : Expr) (f : Str → List Expr → Option γ) : Option γ:=eCall e (fun g args kws _=>l0 kws (eName g (fun g=>f g args) none)) none
noncomputable def iterOf (ρ : Rho) (e : Expr) (σ : Sto) : Option (Src × Sto):=oe (eFn e fun f args=>gd (isRange sc f ρ) (iterR R sc ρ args σ)) (iterP R sc ρ e σ)
noncomputable def callV (f : SV) (args : List SV) (σ : Sto) : An:=@SV.casesOn (fun _=>An) f (fun _=>none) (fun _=>none) (fun _=>none) (fun a=>@Option.rec Nat (fun _=>An) (R.call a args σ) (fun i=>ob (R.call i (.ref (K.len σ + 1) :: args) (K.app σ [.di [],.inst a (K.len σ)])) fun v σ'=>gd (isNoneV v) (some (.ref (K.len σ + 1),σ'))) (initAt a)) (fun n=>tyf n args σ) fun id=>bfn T.F id args σ
noncomputable def baseE (e : Expr) : Bool:=eCall e (fun f args kws _=>@List.casesOn Expr (fun _=>Bool) args (@List.casesOn Keyword (fun _=>Bool) kws (eName f (fun _=>false) true) fun _ _=>true) fun _ _=>true) true
noncomputable def boolV (b : Bool) : SV:=.d (.bool b)
noncomputable def aName (x : Str) (ρ : Rho) (σ : Sto) : An:=gd (!seq x (Str.ofString "__debug__")) (om (nameV sc x ρ) fun v=>(v,σ))
noncomputable def aAttr (o : Expr) (x : Str) (ρ : Rho) (σ : Sto) : An:=gd (baseE o) (ob (R.ev sc o ρ σ) fun v σ=>om (getA v x σ) fun y=>(y,σ))
noncomputable def aMe (me : Me) (v : SV) (vs : List SV) (σ : Sto) : An:=oe (bcall T.F me v vs σ) (@Me.casesOn (fun _=>An) me none none none none none none none none none none none none fun f=>R.call f (v :: vs) σ)
noncomputable def aMeth (o : Expr) (x : Str) (ap : Pos) (args : List Expr) (pos : Pos) (ρ : Rho) (σ : Sto) : An:=gd (baseE o) (gd (Nat.beq ap.endLine pos.line) (gle (K.len args) 29
  (ob (R.ev sc o ρ σ) fun v σ=>oo (methOf v x σ) fun me=>ob (evL R sc ρ args σ) fun vs σ=>aMe T R me v vs σ)))
noncomputable def aFn (f : Expr) (args : List Expr) (ρ : Rho) (σ : Sto) : An:=ob (R.ev sc f ρ σ) fun fv σ=>ob (evL R sc ρ args σ) fun vs σ=>callV T R fv vs σ
noncomputable def aCall (f : Expr) (args : List Expr) (kws : List Keyword) (pos : Pos) (ρ : Rho) (σ : Sto) : An:=l0 kws (eAttr f (fun o x ap=>aMeth T R sc o x ap args pos ρ σ) (aFn T R sc f args ρ σ))
noncomputable def cmp2 {γ : Type} (l : Expr) (ops : List CmpOp) (rs : List Expr) (ρ : Rho) (σ : Sto) (f : Bool → γ) : Option (γ × Sto) :=
  l1 ops fun op=>l1 rs fun r=>gd (known r) (ob (R.ev sc l ρ σ) fun a σ=>ob (R.ev sc r ρ σ) fun b σ=>om (cmp T.F op a b σ) fun z=>(f z,σ))
noncomputable def aUnary (op : UnaryOp) (e : Expr) (ρ : Rho) (σ : Sto) : An:=@UnaryOp.casesOn (fun _=>An) op none none none (ob (R.ev sc e ρ σ) fun v σ=>vInt v fun i=>some (.d (.int (-i)),σ))
noncomputable def isM1 (e : Expr) : Bool:=@Option.rec (UnaryOp × Expr) (fun _=>Bool) false (fun q=>@UnaryOp.casesOn (fun _=>Bool) q.1 false false false (@Option.rec Int (fun _=>Bool) false (fun i=>decide (i = 1)) (kInt (kindOf q.2)))) (kUn (kindOf e))
noncomputable def aSlice (v : Expr) (lo hi st : Option Expr) (ρ : Rho) (σ : Sto) : An:=ob (R.ev sc v ρ σ) fun v σ=>@Option.rec Expr (fun _=>An) (ob (evOptInt R sc ρ σ lo) fun l σ=>ob (evOptInt R sc ρ σ hi) fun h σ=>slice v l h σ) (fun s=>gd (isM1 s) (gd lo.isNone (gd hi.isNone (sliceR v σ)))) st
noncomputable def aSub (v i : Expr) (ρ : Rho) (σ : Sto) : An:=ob (R.ev sc v ρ σ) fun v σ=>ob (R.ev sc i ρ σ) fun k σ=>om (sub T.F v k σ) fun y=>(y,σ)
noncomputable def aSubscript (v i : Expr) (ρ : Rho) (σ : Sto) : An:=@Kd.casesOn (fun _=>An) (kindOf i) (fun _=>aSub T R sc v i ρ σ) (fun _=>aSub T R sc v i ρ σ) (fun _ _ _=>aSub T R sc v i ρ σ) (fun _ _ _ _=>aSub T R sc v i ρ σ) (fun _ _ _=>aSub T R sc v i ρ σ) (fun _ _=>aSub T R sc v i ρ σ) (fun _ _=>aSub T R sc v i ρ σ) (fun _ _ _=>aSub T R sc v i ρ σ) (fun _ _ _=>aSub T R sc v i ρ σ) (fun _ _=>aSub T R sc v i ρ σ) (fun _=>aSub T R sc v i ρ σ) (fun _=>aSub T R sc v i ρ σ) (fun _ _=>aSub T R sc v i ρ σ) (fun _=>aSub T R sc v i ρ σ)
  (fun lo hi st=>aSlice R sc v lo hi st ρ σ) (fun _ _ _ _=>none) (fun _ _ _=>none) none
noncomputable def aIf (t a b : Expr) (ρ : Rho) (σ : Sto) : An:=ob (R.tst sc t ρ σ) fun z σ=>bI z (R.ev sc a ρ σ) (R.ev sc b ρ σ)
noncomputable def aBin (l : Expr) (op : Operator) (r : Expr) (ρ : Rho) (σ : Sto) : An:=ob (R.ev sc l ρ σ) fun a σ=>ob (R.ev sc r ρ σ) fun b σ=>binop op a b σ
noncomputable def aList (es : List Expr) (ρ : Rho) (σ : Sto) : An:=ob (evL R sc ρ es σ) fun vs σ=>glen vs 1000 (nw σ (mkL vs))
noncomputable def aTuple (es : List Expr) (ρ : Rho) (σ : Sto) : An:=ob (evL R sc ρ es σ) fun vs σ=>glen vs 1000 (some (mkT vs,σ))
noncomputable def aDict (ks : List (Option Expr)) (vs : List Expr) (ρ : Rho) (σ : Sto) : An:=ob (evPairs R sc ρ ks vs σ) fun l σ=>glen l 15 (nw σ (.di (l.foldl (fun es p=>put p.1 p.2 es) [])))
noncomputable def aJoined (ps : List Expr) (ρ : Rho) (σ : Sto) : An:=ob (evParts R sc ρ ps σ) fun l σ=>glen l 1000 (some (.d (.str ⟨l.toArray⟩),σ))
noncomputable def tstAll (op : BoolOp) (ρ : Rho) : List Expr → Sto → Option (Bool × Sto):=@List.rec Expr (fun _=>Sto → Option (Bool × Sto)) (fun σ=>some (@BoolOp.casesOn (fun _=>Bool) op true false,σ)) fun e _ ih σ=>ob (R.tst sc e ρ σ) fun b σ=>@BoolOp.casesOn (fun _=>Option (Bool × Sto)) op (bI b (ih σ) (some (false,σ))) (bI b (some (true,σ)) (ih σ))
noncomputable def tAny (e : Expr) (ρ : Rho) (σ : Sto) : Option (Bool × Sto):=ob (R.ev sc e ρ σ) fun v σ=>om (truth v) fun b=>(b,σ)
noncomputable def tIf (t a b : Expr) (ρ : Rho) (σ : Sto) : Option (Bool × Sto):=ob (R.tst sc t ρ σ) fun z σ=>bI z (R.tst sc a ρ σ) (R.tst sc b ρ σ)
noncomputable def tUnary (op : UnaryOp) (x e : Expr) (ρ : Rho) (σ : Sto) : Option (Bool × Sto):=@UnaryOp.casesOn (fun _=>Option (Bool × Sto)) op none (ob (R.tst sc x ρ σ) fun b σ=>some (!b,σ)) none (tAny R sc e ρ σ)
noncomputable def tstK (k : Kd) (e : Expr) (ρ : Rho) (σ : Sto) : Option (Bool × Sto) :=
  @Kd.casesOn (fun _=>Option (Bool × Sto)) k (fun _=>tAny R sc e ρ σ) (fun _=>tAny R sc e ρ σ) (fun _ _ _=>tAny R sc e ρ σ) (fun _ _ _ _=>tAny R sc e ρ σ) (fun l ops rs=>cmp2 T R sc l ops rs ρ σ fun b=>b) (fun op es=>tstAll R sc op ρ es σ) (fun op x=>tUnary R sc op x e ρ σ) (fun t a b=>tIf R sc t a b ρ σ)
    (fun _ _ _=>tAny R sc e ρ σ) (fun _ _=>tAny R sc e ρ σ) (fun _=>none) (fun _=>none) (fun _ _=>none) (fun _=>none) (fun _ _ _=>none) (fun _ _ _ _=>none) (fun _ _ _=>none) none
noncomputable def tstStep (e : Expr) (ρ : Rho) (σ : Sto) : Option (Bool × Sto):=tstK T R sc (kindOf e) e ρ σ
noncomputable def elem (x : Str) (v : SV) (ifs : List Expr) (elt : Expr) (ρ : Rho) (σ : Sto) : Option (Option D):=ob (evIfs R sc ((x,v) :: ρ) ifs σ) fun b σ₁ =>
  bI b (ob (R.ev sc elt ((x,v) :: ρ) σ₁) fun y σ₂=>vD y fun y=>gd (sameS σ σ₂) (some (some y))) (gd (sameS σ σ₁) (some none))
noncomputable def compT (x : Str) (ifs : List Expr) (elt : Expr) (ρ : Rho) (σ : Sto) : List D → Option (List (D × Option D)):=mapM fun a=>om (elem R sc x (.d a) ifs elt ρ σ) fun y=>(a,y)
end
noncomputable def compI (R : LX → Nat → D → Rec) (sc : Scope) (x : Str) (ifs : List Expr) (elt : Expr) (ρ : Rho) (σ : Sto) (l : LX) (k : Nat) : List D → Option (List (D × Option D)):=mapM fun a=>om (elem (R l k a) sc x (.d (.int k)) ifs elt ρ σ) fun y=>(a,y)
noncomputable def compIs (R : LX → Nat → D → Rec) (sc : Scope) (x : Str) (ifs : List Expr) (elt : Expr) (ρ : Rho) (σ : Sto) (l : LX) (al : List D) (k n : Nat) : Option (List (List (D × Option D))):=@Nat.rec (fun _=>Nat → Option (List (List (D × Option D)))) (fun _=>some []) (fun _ ih k=>oo (compI R sc x ifs elt ρ σ l k al) fun t=>om (ih (k + 1)) (t :: ·)) n k
noncomputable def allSome : List (D × Option D) → Bool:=@List.rec (D × Option D) (fun _=>Bool) true fun p _ ih=>bA p.2.isSome ih
noncomputable def someOf : List (D × Option D) → List D:=@List.rec (D × Option D) (fun _=>List D) [] fun p _ ih=>@Option.rec D (fun _=>List D) ih (fun y=>y :: ih) p.2
noncomputable def someOfs : List (List (D × Option D)) → List D:=@List.rec (List (D × Option D)) (fun _=>List D) [] fun t _ ih=>K.app (someOf t) ih
noncomputable def mkX (t : List (D × Option D)) (l : LX) : LX:=bI (allSome t) (.map t l) (.tab t l)
section
variable (T : Tab) (R : Rec) (sc : Scope)
noncomputable def overOf (ρ : Rho) (e : Expr) (σ : Sto) : Option (Nat × List D × LX × Sto):=eFn e fun f args=>gd (isRange sc f ρ) (l1 args fun a=>eFn a fun g args=>gd (isLen sc g ρ) (l1 args fun _=>ob (evL R sc ρ args σ) fun vs σ=>l1 vs fun v=>vRef v fun i=>aSy σ i fun n al l=>gle n 1000 (some (n,al,l,σ))))
noncomputable def compNs (out : List (Str × NameKind)) (x : Str) (ρ : Rho) : List (Str × NameKind) → Bool:=@List.rec (Str × NameKind) (fun _=>Bool) true fun p r ih=>bA (lk p.1 r).isNone (nkK p.2 (bA (bI (seq p.1 x) true (lk p.1 ρ).isNone) ih) false (bA (@Option.rec NameKind (fun _=>Bool) false (fun k=>nkK k false true true false false) (lk p.1 out)) ih) ih false)
noncomputable def compSc (sc' : Scope) (x : Str) (ρ : Rho) : Bool:=bA (decide (sc'.kind = .function)) (bA (@Option.rec NameKind (fun _=>Bool) false (fun k=>nkK k true false false false false) (lk x sc'.names)) (compNs sc.names x ρ sc'.names))
end
noncomputable def addAt (T : Tab) (l : LX) (k : Nat) (a : D) : Tab:={ T with F:={ T.F with ats:=(l,k,a) :: T.F.ats } }
noncomputable def sameP (a b : Pos) : Bool:=bA (Nat.beq a.line b.line) (bA (Nat.beq a.col b.col) (bA (Nat.beq a.endLine b.endLine) (Nat.beq a.endCol b.endCol)))
theorem sameP_eq (a b : Pos) (h : sameP a b = true) : a = b :=
  congr (congr (c2 Pos.mk (Nat.eq_of_beq_eq_true (bA_i h).1) (Nat.eq_of_beq_eq_true (bA_i (bA_i h).2).1)) (Nat.eq_of_beq_eq_true (bA_i (bA_i (bA_i h).2).2).1)) (Nat.eq_of_beq_eq_true (bA_i (bA_i (bA_i h).2).2).2)
noncomputable def dB {α : Type} [DecidableEq α] (a b : α) : Bool:=decide (a = b)
theorem dB_eq {α : Type} [DecidableEq α] (a b : α) (h : dB a b = true) : a = b:=of_decide_eq_true h
noncomputable def sameC (a b : Const) : Bool:=@Const.casesOn (fun _=>Bool) a
  (@Const.casesOn (fun _=>Bool) b true (fun _=>false) (fun _=>false) (fun _=>false) (fun _ _=>false) (fun _=>false) (fun _=>false) false)
  (fun a=>@Const.casesOn (fun _=>Bool) b false (fun b=>a == b) (fun _=>false) (fun _=>false) (fun _ _=>false) (fun _=>false) (fun _=>false) false)
  (fun a=>@Const.casesOn (fun _=>Bool) b false (fun _=>false) (fun b=>decide (a = b)) (fun _=>false) (fun _ _=>false) (fun _=>false) (fun _=>false) false)
  (fun _=>false) (fun _ _=>false) (fun a=>@Const.casesOn (fun _=>Bool) b false (fun _=>false) (fun _=>false) (fun _=>false) (fun _ _=>false) (fun b=>seq a b) (fun _=>false) false) (fun _=>false) false
theorem sameC_eq (a b : Const) : sameC a b = true → a = b:=by
  cases a with
  | none=>cases b <;> first | exact nT | exact fun _=>rfl
  | bool a=>cases b <;> first | exact nT | exact fun h=>congrArg Const.bool (beq_iff_eq.mp h)
  | int a=>cases b <;> first | exact nT | exact fun h=>congrArg Const.int (of_decide_eq_true h)
  | str a=>cases b <;> first | exact nT | exact fun h=>congrArg Const.str (seq_eq h)
  | _=>exact nT
noncomputable def sameSc (a b : Scope) : Bool:=bA (dB a.kind b.kind) (bA (dB a.isGenerator b.isGenerator) (bA (dB a.isCoroutine b.isCoroutine) (bA (allB (prB seq sameC) a.more b.more) (allB (prB seq dB) a.names b.names))))
theorem sameSc_eq (a b : Scope) (h : sameSc a b = true) : a = b:=by
  have h1:=bA_i h
  have h2:=bA_i h1.2
  have h3:=bA_i h2.2
  have h4:=bA_i h3.2
  exact congr (congr (congr (c2 Scope.mk (dB_eq _ _ h1.1) (allB_eq (prB_eq (fun _ _=>seq_eq) dB_eq) _ _ h4.2)) (dB_eq _ _ h2.1)) (dB_eq _ _ h3.1)) (allB_eq (prB_eq (fun _ _=>seq_eq) sameC_eq) _ _ h4.1)
noncomputable abbrev Sk:=Nat × Pos × Str × Nat × Const × List CmpOp × Option Operator × Option Scope
noncomputable def sameSk : Sk → Sk → Bool:=prB Nat.beq (prB sameP (prB seq (prB Nat.beq (prB sameC (prB (allB dB) (prB (optB dB) (optB sameSc)))))))
theorem sameSk_eq : ∀ a b : Sk,sameSk a b = true → a = b:=prB_eq (fun _ _=>Nat.eq_of_beq_eq_true) (prB_eq sameP_eq (prB_eq (fun _ _=>seq_eq) (prB_eq (fun _ _=>Nat.eq_of_beq_eq_true) (prB_eq sameC_eq (prB_eq (allB_eq dB_eq) (prB_eq (optB_eq dB_eq) (optB_eq sameSc_eq)))))))
noncomputable def sk (t : Nat) (p : Pos) (x : Str) (k : Nat) (c : Const) (os : List CmpOp) (o : Option Operator) (sc : Option Scope) (es : List Expr) : Option (Sk × List Expr):=some ((t,p,x,k,c,os,o,sc),es)
noncomputable def s0 : Str:=⟨#[]⟩
noncomputable def view (e : Expr) : Option (Sk × List Expr):=@Expr.casesOn (fun _=>Option (Sk × List Expr)) e (fun _ _ _=>none) (fun _ _ _=>none) (fun e o f p=>sk 5 p s0 0 .none [] (some o) none [e,f]) (fun _ _ _=>none) (fun _ _ _ _=>none) (fun t e f p=>sk 6 p s0 0 .none [] none none [t,e,f]) (fun _ _ _=>none) (fun _ _ _=>none)
  (fun e gs sc p=>lc gs fun g r=>l0 r (gd (decide (g.is_async = 0)) (sk 9 p s0 0 .none [] none (some sc) (e :: g.target :: g.iter :: g.ifs)))) (fun _ _ _ _=>none) (fun _ _ _ _ _=>none) (fun _ _ _ _=>none) (fun _ _=>none) (fun _ _=>none) (fun _ _=>none) (fun e os es p=>sk 4 p s0 0 .none os none none (e :: es)) (fun e es ks p=>l0 ks (sk 3 p s0 0 .none [] none none (e :: es)))
  (fun _ _ _ _=>none) (fun _ _=>none) (fun c k p=>sk 0 p s0 k c [] none none []) (fun e x p=>sk 2 p x 0 .none [] none none [e]) (fun e i p=>sk 7 p s0 0 .none [] none none [e,i]) (fun _ _=>none) (fun x p=>sk 1 p x 0 .none [] none none []) (fun es p=>sk 8 p s0 0 .none [] none none es) (fun _ _ _=>none)
  (fun a b c p=>@Option.rec Expr (fun _=>Option (Sk × List Expr)) (@Option.rec Expr (fun _=>Option (Sk × List Expr)) (oo b fun b=>sk 11 p s0 0 .none [] none none [b]) (fun a=>@Option.rec Expr (fun _=>Option (Sk × List Expr)) (sk 10 p s0 0 .none [] none none [a]) (fun _=>none) b) a) (fun _=>none) c)
noncomputable def dE : Expr:=.Constant .none 0 ⟨0,0,0,0⟩
noncomputable def hd (es : List Expr) : Expr:=es.headD dE
noncomputable def tbl (p : Pos) (x : Str) (k : Nat) (c : Const) (os : List CmpOp) (o : Option Operator) (sc : Option Scope) (es : List Expr) : List Expr :=
  [.Constant c k p,.Name x p,.Attribute (hd es) x p,.Call (hd es) es.tail [] p,.Compare (hd es) os es.tail p,.BinOp (hd es) (o.getD .Add) (hd es.tail) p,.IfExp (hd es) (hd es.tail) (hd es.tail.tail) p,.Subscript (hd es) (hd es.tail) p,.List es p,
   .ListComp (hd es) [⟨hd es.tail,hd es.tail.tail,es.tail.tail.tail,0⟩] (sc.getD default) p,.Slice (some (hd es)) none none p,.Slice none (some (hd es)) none p]
noncomputable def build (s : Sk) (es : List Expr) : Expr:=(K.nth (tbl s.2.1 s.2.2.1 s.2.2.2.1 s.2.2.2.2.1 s.2.2.2.2.2.1 s.2.2.2.2.2.2.1 s.2.2.2.2.2.2.2 es) s.1).getD dE
abbrev Bd (a : Expr) (v : Sk × List Expr) : Prop:=build v.1 v.2 = a
theorem view_eq (a : Expr) : Sat (view a) (Bd a):=by
  cases a
  case Call=>exact .l0 (P:=fun ks v=>Bd (.Call _ _ ks _) v) (.yes rfl)
  case ListComp e gs sc p=>exact .lc (P:=fun gs v=>Bd (.ListComp e gs sc p) v) fun g r=>.l0 (P:=fun r v=>Bd (.ListComp e (g :: r) sc p) v) (.gd fun h=>.yes (by have h:=of_decide_eq_true h; obtain ⟨t,i,cs,k⟩:=g; subst h; rfl))
  case Slice a b c p=>cases c <;> cases a <;> cases b <;> first | exact .no | exact .yes rfl
  all_goals first | exact .no | exact .yes rfl
noncomputable def same2 {α β : Type} (v : α → Option β) (f : β → β → Bool) (a b : α) : Bool:=@Option.rec β (fun _=>Bool) false (fun x=>@Option.rec β (fun _=>Bool) false (f x) (v b)) (v a)
theorem same2_i {α β : Type} {v : α → Option β} {f : β → β → Bool} {a b : α} (h : same2 v f a b = true) : ∃ x y,v a = some x ∧ v b = some y ∧ f x y = true:=by
  unfold same2 at h
  cases e : v a with
  | none=>rw [e] at h; exact nT h
  | some x =>
    cases e' : v b with
    | none=>rw [e,e'] at h; exact nT h
    | some y=>rw [e,e'] at h; exact ⟨x,y,rfl,rfl,h⟩
noncomputable def eqEx : Nat → Expr → Expr → Bool:=@Nat.rec (fun _=>Expr → Expr → Bool) (fun _ _=>false) fun _ ih=>same2 view (prB sameSk (allB ih))
theorem eqEx_eq (n : Nat) : ∀ a b : Expr,eqEx n a b = true → a = b:=by
  induction n with
  | zero=>exact fun _ _=>nT
  | succ n ih =>
    intro a b h
    obtain ⟨x,y,h1,h2,h⟩:=same2_i h
    rw [← view_eq a h1,← view_eq b h2,prB_eq sameSk_eq (allB_eq ih) x y h]
noncomputable def viewS (s : Stmt) : Option ((Nat × Pos) × List Expr × List (List Stmt)):=@Stmt.casesOn (fun _=>Option ((Nat × Pos) × List Expr × List (List Stmt))) s (fun _ _ _ _ _ _ _ _ _ _=>none) (fun _ _ _ _ _ _ _ _ _ _=>none) (fun _ _ _ _ _ _ _ _ _ _ _=>none) (fun _ _=>none) (fun _ _=>none) (fun ts e p=>some ((0,p),e :: ts,[])) (fun _ _ _ _ _ _ _=>none) (fun _ _ _ _=>none) (fun _ _ _ _ _=>none)
  (fun t i x y p=>some ((3,p),[t,i],[x,y])) (fun _ _ _ _ _=>none) (fun _ _ _ _=>none) (fun t x y p=>some ((2,p),[t],[x,y])) (fun _ _ _=>none) (fun _ _ _=>none) (fun _ _ _=>none) (fun _ _ _=>none) (fun _ _ _ _ _=>none) (fun _ _ _ _ _=>none) (fun _ _ _=>none) (fun _ _=>none) (fun _ _ _ _=>none) (fun _ _=>none) (fun _ _=>none) (fun e p=>some ((1,p),[e],[])) (fun _=>none) (fun _=>none) (fun _=>none)
noncomputable def hdL (l : List (List Stmt)) : List Stmt:=l.headD []
noncomputable def buildS (v : (Nat × Pos) × List Expr × List (List Stmt)) : Stmt:=(K.nth [.Assign v.2.1.tail (hd v.2.1) v.1.2,.Expr (hd v.2.1) v.1.2,.If (hd v.2.1) (hdL v.2.2) (hdL v.2.2.tail) v.1.2,.For (hd v.2.1) (hd v.2.1.tail) (hdL v.2.2) (hdL v.2.2.tail) v.1.2] v.1.1).getD (.Pass ⟨0,0,0,0⟩)
theorem viewS_eq (a : Stmt) : Sat (viewS a) fun v=>buildS v = a:=by
  cases a <;> first | exact .no | exact .yes rfl
noncomputable def eqStm : Nat → Stmt → Stmt → Bool:=@Nat.rec (fun _=>Stmt → Stmt → Bool) (fun _ _=>false) fun _ ih=>same2 viewS (prB (prB Nat.beq sameP) (prB (allB (eqEx 30)) (allB (allB ih))))
theorem eqStm_eq (n : Nat) : ∀ a b : Stmt,eqStm n a b = true → a = b:=by
  induction n with
  | zero=>exact fun _ _=>nT
  | succ n ih =>
    intro a b h
    obtain ⟨x,y,h1,h2,h⟩:=same2_i h
    rw [← viewS_eq a h1,← viewS_eq b h2,prB_eq (prB_eq (fun _ _=>Nat.eq_of_beq_eq_true) sameP_eq) (prB_eq (allB_eq (eqEx_eq 30)) (allB_eq (allB_eq ih))) x y h]
section
variable (T : Tab) (RT : Tab → Rec) (R : Rec) (sc : Scope)
noncomputable def compR (elt : Expr) (x : Str) (ifs : List Expr) (sc' : Scope) (ρ : Rho) (r : Src) (σ : Sto) : An:=@Src.casesOn (fun _=>An) r (fun lo n=>ob (compL (RT T) sc' x ifs elt ρ none (range lo (lo + n)) σ) fun ys σ=>nw σ (mkL ys)) (fun i o xs=>ob (compL (RT T) sc' x ifs elt ρ (some (i,o)) xs σ) fun ys σ=>nw σ (mkL ys))
  fun _ n al l=>oo (compT (RT T) sc' x ifs elt ρ σ al) fun t=>nw σ (.sy n (someOf t) (mkX t l))
noncomputable def comp1 (elt : Expr) (x : Str) (it : Expr) (ifs : List Expr) (sc' : Scope) (ρ : Rho) (σ : Sto) : An:=gd (compSc sc sc' x ρ) (oe
  (oo (overOf (RT T) sc ρ it σ) fun q=>oo (compIs (fun l k a=>RT (addAt T l k a)) sc' x ifs elt ρ q.2.2.2 q.2.2.1 q.2.1 0 q.1) fun ts=>nw q.2.2.2 (.sy q.1 (someOfs ts) (.itab ts q.2.2.1)))
  (ob (iterOf (RT T) sc ρ it σ) fun r σ=>compR T RT elt x ifs sc' ρ r σ))
noncomputable def aComp (elt : Expr) (gs : List Comprehension) (sc' : Scope) (pos : Pos) (ρ : Rho) (σ : Sto) : An:=@Option.rec (Scope × Expr × (Rho → Sto → An)) (fun _=>An)
  (l1 gs fun g=>gd (decide (g.is_async = 0)) (eName g.target (fun x=>comp1 T RT sc elt x g.iter g.ifs sc' ρ σ) none))
  (fun q=>gd (sameSc sc q.1) (gd (eqEx 30 (.ListComp elt gs sc' pos) q.2.1) (q.2.2 ρ σ))) (T.comp pos.line pos.col)
noncomputable def evK (k : Kd) (ρ : Rho) (σ : Sto) : An:=@Kd.casesOn (fun _=>An) k (fun c=>om (constV c) fun v=>(v,σ)) (fun x=>aName sc x ρ σ) (fun o x _=>aAttr (RT T) sc o x ρ σ) (fun f args kws pos=>aCall T (RT T) sc f args kws pos ρ σ) (fun l ops rs=>cmp2 T (RT T) sc l ops rs ρ σ boolV) (fun op es=>evBool (RT T) sc op ρ es σ) (fun op e=>aUnary (RT T) sc op e ρ σ)
  (fun t a b=>aIf (RT T) sc t a b ρ σ) (fun l op r=>aBin (RT T) sc l op r ρ σ) (fun v i=>aSubscript T (RT T) sc v i ρ σ) (fun es=>aList (RT T) sc es ρ σ) (fun es=>aTuple (RT T) sc es ρ σ) (fun ks vs=>aDict (RT T) sc ks vs ρ σ) (fun ps=>aJoined (RT T) sc ps ρ σ) (fun _ _ _=>none) (fun elt gs sc' pos=>aComp T RT sc elt gs sc' pos ρ σ) (fun _ _ _=>none) none
noncomputable def evStep (e : Expr) (ρ : Rho) (σ : Sto) : An:=evK T RT sc (kindOf e) ρ σ
noncomputable def isVar (x : Str) : Bool:=@Option.rec NameKind (fun _=>Bool) false (fun k=>nkK k true true false false false) (lk x sc.names)
noncomputable def storeT (t : Expr) (v : SV) (ρ : Rho) (σ : Sto) : Option (Rho × Sto):=@Kd.casesOn (fun _=>Option (Rho × Sto)) (kindOf t) (fun _=>none) (fun x=>gd (isVar sc x) (some (put x v ρ,σ))) (fun o x _=>ob (R.ev sc o ρ σ) fun w σ=>om (setA w x v σ) fun σ=>(ρ,σ)) (fun _ _ _ _=>none) (fun _ _ _=>none) (fun _ _=>none) (fun _ _=>none) (fun _ _ _=>none) (fun _ _ _=>none)
  (fun o i=>gd (known i) (ob (R.ev sc o ρ σ) fun w σ=>ob (R.ev sc i ρ σ) fun k σ=>om (setI w k v σ) fun σ=>(ρ,σ))) (fun _=>none) (fun _=>none) (fun _ _=>none) (fun _=>none) (fun _ _ _=>none) (fun _ _ _ _=>none) (fun _ _ _=>none) none
noncomputable def storeNs : List Expr → List SV → Rho → Option Rho:=@List.rec Expr (fun _=>List SV → Rho → Option Rho) (fun vs ρ=>l0 vs (some ρ)) fun t _ ih vs ρ=>lc vs fun v vs=>eName t (fun x=>gd (isVar sc x) (ih vs (put x v ρ))) none
noncomputable abbrev StA:=Option (Out × Rho × Sto)
noncomputable def turnO (o : Out) (again : StA) (ρ : Rho) (σ : Sto) : StA:=@Out.casesOn (fun _=>StA) o again (some (.next,ρ,σ)) again fun v=>some (.ret v,ρ,σ)
noncomputable def o3 {α β γ δ : Type} (x : Option (α × β × γ)) (f : α → β → γ → Option δ) : Option δ:=ob x fun a q=>f a q.1 q.2
noncomputable def forE (x : Str) (body : List Stmt) (src : Option (Nat × SO)) : List SV → Rho → Sto → StA:=@List.rec SV (fun _=>Rho → Sto → StA) (fun ρ σ=>some (.next,ρ,σ)) fun v _ ih ρ σ=>o3 (R.ex sc body (put x v ρ) σ) fun o ρ σ=>turnO o (gd (stays src σ) (ih ρ σ)) ρ σ
noncomputable def whileE (t : Expr) (body : List Stmt) : Nat → Rho → Sto → StA:=@Nat.rec (fun _=>Rho → Sto → StA) (fun _ _=>none) fun _ ih ρ σ=>ob (R.tst sc t ρ σ) fun b σ=>bI b (o3 (R.ex sc body ρ σ) fun o ρ σ=>turnO o (ih ρ σ) ρ σ) (some (.next,ρ,σ))
noncomputable def augop (op : Operator) (a b : SV) : Option Int:=vInt a fun x=>vInt b fun y=>@Operator.casesOn (fun _=>Option Int) op (some (x + y)) (some (x - y)) none none none none none none none none none none none
noncomputable def noTup (e : Expr) : Bool:=bA (known e) (@Kd.casesOn (fun _=>Bool) (kindOf e) (fun _=>true) (fun _=>true) (fun _ _ _=>true) (fun _ _ _ _=>true) (fun _ _ _=>true) (fun _ _=>true) (fun _ _=>true) (fun _ _ _=>true) (fun _ _ _=>true) (fun _ _=>true) (fun _=>true) (fun _=>false) (fun _ _=>true) (fun _=>true) (fun _ _ _=>true) (fun _ _ _ _=>false) (fun _ _ _=>true) true)
noncomputable def isComp (e : Expr) : Bool:=@Kd.casesOn (fun _=>Bool) (kindOf e) (fun _=>false) (fun _=>false) (fun _ _ _=>false) (fun _ _ _ _=>false) (fun _ _ _=>false) (fun _ _=>false) (fun _ _=>false) (fun _ _ _=>false) (fun _ _ _=>false) (fun _ _=>false) (fun _=>false) (fun _=>false) (fun _ _=>false) (fun _=>false) (fun _ _ _=>false) (fun _ _ _ _=>true) (fun _ _ _=>false) true
noncomputable def sAssign1 (t e : Expr) (ρ : Rho) (σ : Sto) : StA:=gd (known e) (ob (R.ev sc e ρ σ) fun v σ=>ob (storeT R sc t v ρ σ) fun ρ σ=>some (.next,ρ,σ))
noncomputable def sAssignT (ts : List Expr) (e : Expr) (ρ : Rho) (σ : Sto) : StA:=gd (noTup e) (ob (R.ev sc e ρ σ) fun v σ=>oo (itemsOf σ v) fun vs=>om (storeNs sc ts vs ρ) fun ρ=>(.next,ρ,σ))
noncomputable def sAssign (ts : List Expr) (e : Expr) (ρ : Rho) (σ : Sto) : StA:=l1 ts fun t=>eTup t (fun ts=>sAssignT R sc ts e ρ σ) (sAssign1 R sc t e ρ σ)
noncomputable def sAug (t : Expr) (op : Operator) (e : Expr) (ρ : Rho) (σ : Sto) : StA:=eName t (fun x=>gd (isVar sc x) (oo (nameV sc x ρ) fun a=>ob (R.ev sc e ρ σ) fun b σ=>om (augop op a b) fun c=>(.next,put x (.d (.int c)) ρ,σ))) none
noncomputable def sRet (e : Option Expr) (ρ : Rho) (σ : Sto) : StA:=@Option.rec Expr (fun _=>StA) (some (.ret (.d .none),ρ,σ)) (fun e=>ob (R.ev sc e ρ σ) fun v σ=>some (.ret v,ρ,σ)) e
noncomputable def sExpr (e : Expr) (ρ : Rho) (σ : Sto) : StA:=gd (!isComp e) (ob (R.ev sc e ρ σ) fun _ σ=>some (.next,ρ,σ))
noncomputable def sIf (t : Expr) (a b : List Stmt) (ρ : Rho) (σ : Sto) : StA:=ob (R.tst sc t ρ σ) fun z σ=>bI z (R.ex sc a ρ σ) (R.ex sc b ρ σ)
noncomputable def isSy (r : Src) : Bool:=@Src.casesOn (fun _=>Bool) r (fun _ _=>false) (fun _ _ _=>false) fun _ _ _ _=>true
noncomputable def sFor (t it : Expr) (body els : List Stmt) (ρ : Rho) (σ : Sto) : StA:=l0 els (eName t (fun x=>gd (isVar sc x) (ob (iterOf R sc ρ it σ) fun r σ=>gd (!isSy r) (forE R sc x body r.src r.items ρ σ))) none)
noncomputable def exS (s : Stmt) (ρ : Rho) (σ : Sto) : StA:=@Stmt.casesOn (fun _=>StA) s (fun _ _ _ _ _ _ _ _ _ _=>none) (fun _ _ _ _ _ _ _ _ _ _=>none) (fun _ _ _ _ _ _ _ _ _ _ _=>none) (fun e _=>sRet R sc e ρ σ) (fun _ _=>none) (fun ts e _=>sAssign R sc ts e ρ σ) (fun _ _ _ _ _ _ _=>none) (fun t op e _=>sAug R sc t op e ρ σ) (fun _ _ _ _ _=>none)
  (fun t it body els _=>sFor R sc t it body els ρ σ) (fun _ _ _ _ _=>none) (fun t body els _=>l0 els (whileE R sc t body 60 ρ σ)) (fun t a b _=>sIf R sc t a b ρ σ) (fun _ _ _=>none) (fun _ _ _=>none) (fun _ _ _=>none) (fun _ _ _=>none) (fun _ _ _ _ _=>none) (fun _ _ _ _ _=>none) (fun _ _ _=>none) (fun _ _=>none) (fun _ _ _ _=>none) (fun _ _=>none) (fun _ _=>none) (fun e _=>sExpr R sc e ρ σ) (fun _=>some (.next,ρ,σ)) (fun _=>some (.brk,ρ,σ)) (fun _=>none)
noncomputable def exH (s : Stmt) (ρ : Rho) (σ : Sto) : StA:=@Option.rec (Scope × Stmt × (Rho → Sto → StA)) (fun _=>StA) (exS R sc s ρ σ) (fun q=>gd (sameSc sc q.1) (gd (eqStm 30 s q.2.1) (q.2.2 ρ σ))) (T.loop s.pos.line s.pos.col)
noncomputable def exStep (l : List Stmt) (ρ : Rho) (σ : Sto) : StA:=@List.casesOn Stmt (fun _=>StA) l (some (.next,ρ,σ)) fun s r=>o3 (exH T R sc s ρ σ) fun o ρ σ=>@Out.casesOn (fun _=>StA) o (R.ex sc r ρ σ) (some (.brk,ρ,σ)) (some (.cont,ρ,σ)) fun v=>some (.ret v,ρ,σ)
noncomputable def bindA (ds : List SV) : List Str → List SV → Option Rho:=@List.rec Str (fun _=>List SV → Option Rho) (fun vs=>l0 vs (some [])) fun x xs ih vs=>lr vs (gle (K.len xs + 1) (K.len ds) (oo (K.nth ds (K.len ds - (K.len xs + 1))) fun v=>om (ih []) ((x,v) :: ·))) fun v vs=>om (ih vs) ((x,v) :: ·)
noncomputable def sDef {γ : Type} (s : Stmt) (f : Arguments → List Stmt → Scope → Option γ) : Option γ:=@Stmt.casesOn (fun _=>Option γ) s (fun _ ps body _ _ _ sc _ _ _=>f ps body sc) (fun _ _ _ _ _ _ _ _ _ _=>none) (fun _ _ _ _ _ _ _ _ _ _ _=>none) (fun _ _=>none) (fun _ _=>none) (fun _ _ _=>none) (fun _ _ _ _ _ _ _=>none) (fun _ _ _ _=>none) (fun _ _ _ _ _=>none)
  (fun _ _ _ _ _=>none) (fun _ _ _ _ _=>none) (fun _ _ _ _=>none) (fun _ _ _ _=>none) (fun _ _ _=>none) (fun _ _ _=>none) (fun _ _ _=>none) (fun _ _ _=>none) (fun _ _ _ _ _=>none) (fun _ _ _ _ _=>none) (fun _ _ _=>none) (fun _ _=>none) (fun _ _ _ _=>none) (fun _ _=>none) (fun _ _=>none) (fun _ _=>none) (fun _=>none) (fun _=>none) (fun _=>none)
noncomputable def outV (o : Out) : Option SV:=@Out.casesOn (fun _=>Option SV) o (some (.d .none)) none none some
noncomputable def bodyL (a : Nat) : Fn:=fun args σ=>ob (fnAt a) fun s ds=>sDef s fun ps body sc=>oo (bindA ds (K.lmap (·.arg) ps.args) args) fun ρ=>o3 (R.ex sc body ρ σ) fun o _ σ'=>om (outV o) fun v=>(v,σ')
noncomputable def bodyRun (a : Nat) : Fn:=fun args σ=>ob (bodyL R a args σ) (gc (K.len σ))
noncomputable def callStep (a : Nat) : Fn:=fun args σ=>gd (fnAt a).isSome (@Option.rec (Bool × Fn) (fun _=>An) (bI T.lite (bodyL R a) (localize false (bodyRun R a)) args σ) (fun q=>localize q.1 q.2 args σ) (T.call a))
end
noncomputable def Tab.at (T : Tab) (n : Nat) : Tab:=bI (Nat.ble T.need n) T { T with call:=fun _=>none,comp:=fun _ _=>none,loop:=fun _ _=>none }
noncomputable def runF : Nat → Tab → Rec:=@Nat.rec (fun _=>Tab → Rec) (fun _=>⟨fun _ _ _ _=>none,fun _ _ _ _=>none,fun _ _ _ _=>none,fun _ _ _=>none⟩) fun n ih T=>⟨evStep (T.at n) ih,tstStep T (ih T),exStep (T.at n) (ih T),callStep (T.at n) (ih T)⟩
noncomputable def F0 : Facts:=⟨[],[],[],[],[],[]⟩
noncomputable def T0 : Tab:=⟨0,false,F0,fun _=>none,fun _ _=>none,fun _ _=>none⟩
end Mine
namespace Mine
open PySem PySem.W PySem.Calls PyProof.Rows
noncomputable abbrev Led:=List (Addr × Obj)
noncomputable def tyName (n : Ty) : String:=@Ty.casesOn (fun _=>String) n "list" "dict" "str" "range" "bool"
noncomputable def biName (b : Bi) : String:=@Bi.casesOn (fun _=>String) b "len" "max" "abs" "isinstance" "sorted"
noncomputable def All2 {α β : Type} (R : α → β → Prop) : List α → List β → Prop:=@List.rec α (fun _=>List β → Prop) (fun vs=>vs = []) fun x _ ih vs=>∃ v r,vs = v :: r ∧ R x v ∧ ih r
section
variable {α β : Type} {R : α → β → Prop}
theorem All2.nil : All2 R [] []:=rfl
theorem All2.cons {a : α} {b : β} {x : List α} {y : List β} (h : R a b) (k : All2 R x y) : All2 R (a :: x) (b :: y):=⟨b,y,rfl,h,k⟩
@[elab_as_elim] theorem All2.el {a : α} {x : List α} {y : List β} {P : List β → Prop} (h : All2 R (a :: x) y) (k : ∀ b r,R a b → All2 R x r → P (b :: r)) : P y:=by
  obtain ⟨b,r,rfl,h1,h2⟩:=h
  exact k b r h1 h2
@[elab_as_elim] theorem All2.el0 {y : List β} {P : List β → Prop} (h : All2 R [] y) (k : P []) : P y:=(show y = [] from h) ▸ k
theorem All2.mono {S : α → β → Prop} (f : ∀ a b,R a b → S a b) {x : List α} : ∀ {y : List β},All2 R x y → All2 S x y:=by
  induction x with
  | nil=>exact fun h=>h
  | cons a x ih=>exact fun h=>h.el fun b r h1 h2=>.cons (f _ _ h1) (ih h2)
theorem All2.length {x : List α} : ∀ {y : List β},All2 R x y → y.length = x.length:=by
  induction x with
  | nil=>exact fun h=>congrArg List.length h
  | cons a x ih=>exact fun h=>h.el fun b r _ h=>congrArg (· + 1) (ih h)
theorem All2.get {x : List α} : ∀ {y : List β} {i : Nat} {a : α},All2 R x y → x[i]? = some a → ∃ b,y[i]? = some b ∧ R a b:=by
  induction x with
  | nil=>exact fun _ e=>nS e
  | cons a x ih=>exact fun {y i c} h=>h.el (P:=fun y=>(a :: x)[i]? = some c → ∃ b,y[i]? = some b ∧ R c b) fun b r h k=>i.casesOn (fun e=>⟨b,rfl,Option.some.inj e ▸ h⟩) fun i e=>@ih r i c k e
theorem All2.set {x : List α} {a : α} {b : β} (h : R a b) : ∀ {y : List β} {i : Nat},All2 R x y → All2 R (x.set i a) (y.set i b):=by
  induction x with
  | nil=>exact fun k=>k.el0 rfl
  | cons c x ih=>exact fun {y i} k=>k.el (P:=fun y=>All2 R ((c :: x).set i a) (y.set i b)) fun d r k1 k2=>i.casesOn (.cons h k2) fun i=>.cons k1 (ih k2)
theorem All2.app {x u : List α} {w : List β} (k : All2 R u w) : ∀ {y : List β},All2 R x y → All2 R (x ++ u) (y ++ w):=by
  induction x with
  | nil=>exact fun h=>h.el0 k
  | cons c x ih=>exact fun h=>h.el fun b r h1 h2=>.cons h1 (ih h2)
theorem All2.one {a : α} {b : β} (h : R a b) : All2 R [a] [b]:=.cons h .nil
theorem All2.rev {x : List α} : ∀ {y : List β},All2 R x y → All2 R x.reverse y.reverse:=by
  induction x with
  | nil=>exact fun h=>h.el0 rfl
  | cons c x ih=>exact fun h=>h.el fun b r h1 h2=>by rw [List.reverse_cons,List.reverse_cons]; exact All2.app (.one h1) (ih h2)
theorem All2.drop {x : List α} : ∀ {y : List β} (k : Nat),All2 R x y → All2 R (x.drop k) (y.drop k):=by
  induction x with
  | nil=>exact fun k h=>h.el0 (by rw [List.drop_nil,List.drop_nil]; rfl)
  | cons c x ih=>exact fun k h=>h.el fun b r h1 h2=>k.casesOn (.cons h1 h2) fun k=>ih k h2
theorem All2.take {x : List α} : ∀ {y : List β} (k : Nat),All2 R x y → All2 R (x.take k) (y.take k):=by
  induction x with
  | nil=>exact fun k h=>h.el0 (by rw [List.take_nil,List.take_nil]; rfl)
  | cons c x ih=>exact fun k h=>h.el fun b r h1 h2=>k.casesOn rfl fun k=>.cons h1 (ih k h2)
theorem All2.repl {x : List α} {y : List β} (h : All2 R x y) (k : Nat) : All2 R (List.replicate k x).flatten (List.replicate k y).flatten:=by
  induction k with
  | zero=>exact rfl
  | succ k ih=>exact All2.app ih h
theorem All2.map {γ : Type} {S : γ → β → Prop} {f : α → γ} (h : ∀ a b,R a b → S (f a) b) {x : List α} : ∀ {y : List β},All2 R x y → All2 S (x.map f) y:=by
  induction x with
  | nil=>exact fun h=>h
  | cons c x ih=>exact fun k=>k.el fun b r h1 h2=>.cons (h _ _ h1) (ih h2)
end
structure Kn where
  tps : Led
  ad : List Addr
noncomputable def RelD (tps : Led) : D → Value → Prop:=@D.rec (fun _=>Value → Prop) (fun _=>List Value → Prop) (fun v=>v = .none) (fun b v=>v = .bool b) (fun i v=>∃ t,v = .int i t) (fun s v=>∃ t,v = .str s t) (fun _ ih v=>∃ a vs,v = .ref a ∧ (a,tupO vs) ∈ tps ∧ ih vs)
  (fun vs=>vs = []) fun _ _ h1 h2 vs=>∃ v r,vs = v :: r ∧ h1 v ∧ h2 r
noncomputable abbrev RelDs (tps : Led) : List D → List Value → Prop:=All2 (RelD tps)
noncomputable def RelV (k : Kn) : SV → Value → Prop:=@SV.rec (fun _=>Value → Prop) (fun _=>List Value → Prop) (fun x v=>RelD k.tps x v) (fun i v=>∃ a,k.ad[i]? = some a ∧ v = .ref a) (fun _ ih v=>∃ a vs,v = .ref a ∧ (a,tupO vs) ∈ k.tps ∧ ih vs) (fun a v=>v = .ref a) (fun n v=>v = .type (tyName n)) (fun b v=>v = .builtin (biName b))
  (fun vs=>vs = []) fun _ _ h1 h2 vs=>∃ v r,vs = v :: r ∧ h1 v ∧ h2 r
noncomputable abbrev RelVs (k : Kn) : List SV → List Value → Prop:=All2 (RelV k)
theorem ex2 {α β : Type} {p q : α → β → Prop} (h : ∀ a b,p a b = q a b) : (∃ a b,p a b) = ∃ a b,q a b:=(funext fun a=>funext (h a) : p = q) ▸ rfl
theorem ex2i {α β : Type} {p q : α → β → Prop} (h : ∀ a b,p a b = q a b) : (∃ a b,p a b) ↔ ∃ a b,q a b:=ex2 h ▸ Iff.rfl
theorem relD_tup {tps : Led} {xs : List D} {v : Value} : RelD tps (.tup xs) v ↔ ∃ a vs,v = .ref a ∧ (a,tupO vs) ∈ tps ∧ RelDs tps xs vs:=by
  refine ex2i fun a vs=>congrArg (v = .ref a ∧ (a,tupO vs) ∈ tps ∧ ·) ?_
  induction xs generalizing vs with
  | nil=>rfl
  | cons x xs ih=>exact ex2 fun b r=>congrArg (vs = b :: r ∧ RelD tps x b ∧ ·) (ih r)
theorem relV_tup {k : Kn} {xs : List SV} {v : Value} : RelV k (.tup xs) v ↔ ∃ a vs,v = .ref a ∧ (a,tupO vs) ∈ k.tps ∧ RelVs k xs vs:=by
  refine ex2i fun a vs=>congrArg (v = .ref a ∧ (a,tupO vs) ∈ k.tps ∧ ·) ?_
  induction xs generalizing vs with
  | nil=>rfl
  | cons x xs ih=>exact ex2 fun b r=>congrArg (vs = b :: r ∧ RelV k x b ∧ ·) (ih r)
@[elab_as_elim] theorem relD_el {tps : Led} {xs : List D} {v : Value} {P : Value → Prop} (h : RelD tps (.tup xs) v) (k : ∀ a vs,(a,tupO vs) ∈ tps → RelDs tps xs vs → P (.ref a)) : P v:=by
  obtain ⟨a,vs,rfl,m,r⟩:=relD_tup.mp h
  exact k a vs m r
@[elab_as_elim] theorem relV_el {kn : Kn} {xs : List SV} {v : Value} {P : Value → Prop} (h : RelV kn (.tup xs) v) (k : ∀ a vs,(a,tupO vs) ∈ kn.tps → RelVs kn xs vs → P (.ref a)) : P v:=by
  obtain ⟨a,vs,rfl,m,r⟩:=relV_tup.mp h
  exact k a vs m r
noncomputable def RelEs (P : Params) (k : Kn) : List (Str × SV) → List DictEntry → Prop:=All2 fun p e=>(∃ t,e.key = .str p.1 t) ∧ e.hash = PyData.keyHash P p.1 ∧ RelV k p.2 e.val
structure Vx where
  w : World
  val : Nat → List D
  dval : Nat → List (Str × D)
  bv : Nat → List Int
  obj : Nat → Obj
  tm : Nat → SO
noncomputable def mapT (t : List (D × Option D)) (x : D) : D:=(tabD t x).getD .none
noncomputable def idxMap : List (List (D × Option D)) → List D → List D:=@List.rec (List (D × Option D)) (fun _=>List D → List D) (fun _=>[]) fun t _ ih xs=>@List.casesOn D (fun _=>List D) xs [] fun x xs=>@Option.rec D (fun _=>List D) (ih xs) (fun y=>y :: ih xs) (tabD t x)
noncomputable def atD (b : List D) (x : D) : D:=@D.casesOn (fun _=>D) x .none (fun _=>.none) (fun i=>(b[i.toNat]?).getD .none) (fun _=>.none) (fun _=>.none)
noncomputable def plcN (x : D) : List D → Nat → Option Nat:=@List.rec D (fun _=>Nat → Option Nat) (fun _=>none) fun y _ ih n=>bI (sameD y x) (some n) (ih (n + 1))
noncomputable def plcD (b : List D) (x : D) : D:=@Option.rec Nat (fun _=>D) .none (fun k=>.int (k : Int)) (plcN x b 0)
noncomputable def hasD (x : D) : List D → Bool:=@List.rec D (fun _=>Bool) false fun y _ ih=>bI (sameD y x) true ih
noncomputable def keepF : List D → List D → List D → List D:=fun seen ks xs=>@List.rec D (fun _=>List D → List D → List D) (fun _ _=>[]) (fun k _ ih seen xs=>@List.casesOn D (fun _=>List D) xs [] fun x xs=>bI (hasD k seen) (ih (seen ++ [k]) xs) (x :: ih (seen ++ [k]) xs)) ks seen xs
noncomputable def keepB : List D → List D → List D:=@List.rec D (fun _=>List D → List D) (fun _=>[]) fun k ks ih xs=>@List.casesOn D (fun _=>List D) xs [] fun x xs=>bI (hasD k ks) (ih xs) (x :: ih xs)
noncomputable def sem (k : Nat) (a b : List D) : List D:=bI (Nat.beq k 0) (a.map (atD b)) (bI (Nat.beq k 1) (a.map (plcD b)) (bI (Nat.beq k 2) (keepF [] a b) (bI (Nat.beq k 3) (keepB a b) [])))
noncomputable def den (val : Nat → List D) : LX → List D:=@LX.rec (fun _=>List D) val (fun xs=>xs) (fun t _ ih=>ih.map (mapT t)) (fun t _ ih=>ih.filterMap (tabD t)) (fun ts _ ih=>idxMap ts ih) (fun _ _ a b=>a ++ b) (fun _ ih=>ih.reverse) (fun n _ ih=>ih.take n) (fun n _ ih=>ih.drop n) (fun k _ _ a b=>sem k a b)
noncomputable def setdD (es : List (Str × D)) (k : Str) (v : D) : List (Str × D):=@Option.rec D (fun _=>List (Str × D)) (es ++ [(k,v)]) (fun _=>es) (lk k es)
noncomputable def firstD : List D → Nat → List (Str × D) → List (Str × D):=@List.rec D (fun _=>Nat → List (Str × D) → List (Str × D)) (fun _ es=>es) fun x _ ih n es=>ih (n + 1) (@D.casesOn (fun _=>List (Str × D)) x es (fun _=>es) (fun _=>es) (fun k=>setdD es k (.int n)) (fun _=>es))
noncomputable def denX (P : Vx) : DX → List (Str × D):=@DX.rec (fun _=>List (Str × D)) P.dval (fun _ k v es=>setdD es k v) fun l=>firstD (den P.val l) 0 []
noncomputable def asE (es : List (Str × D)) : List (Str × SV):=es.map fun p=>(p.1,.d p.2)
noncomputable def AtAll (ad : List Addr) : List Nat → List Addr → Prop:=All2 fun i a=>ad[i]? = some a
noncomputable def LsR (ob : Obj) (p : List Value → Prop) : Prop:=∃ vs n,ob = listOf vs.toArray n ∧ p vs
noncomputable def SyR (P : Vx) (tps : Led) (n : Nat) (al : List D) (l : LX) (vs : List Value) : Prop:=(∀ x ∈ den P.val l,x ∈ al) ∧ (den P.val l).length ≤ n ∧ RelDs tps (den P.val l) vs
noncomputable def DiR (P : Vx) (k : Kn) (es : List (Str × SV)) (ob : Obj) : Prop:=(es.map (·.1)).Nodup ∧ ∃ ds n,ob = dictOf ds n ∧ RelEs P.w.params k es ds
noncomputable def InR (ad : List Addr) (c d : Nat) (ob : Obj) : Prop:=∃ dx,ad[d]? = some dx ∧ ob = instObj c dx
noncomputable def RelA (P : Vx) (k : Kn) (o : SO) (ob : Obj) : Prop:=@SO.casesOn (fun _=>Prop) o (fun _=>False) (fun n al l=>LsR ob (SyR P k.tps n al l)) (fun _=>False) (fun es=>DiR P k es ob) (fun c d=>InR k.ad c d ob) (fun _=>False) (fun _=>False) (fun _=>False) (fun _ _=>False)
noncomputable def RelO (P : Vx) (k : Kn) (o : SO) (ob : Obj) : Prop:=@SO.casesOn (fun _=>Prop) o (fun xs=>LsR ob (RelDs k.tps xs)) (fun n al l=>LsR ob (SyR P k.tps n al l)) (fun xs=>LsR ob (RelVs k xs)) (fun es=>DiR P k es ob) (fun c d=>InR k.ad c d ob)
  (fun x=>(denX P x).length ≤ 100 + cntX x ∧ DiR P k (asE (denX P x)) ob) (fun j=>LsR ob fun vs=>(P.bv j).length ≤ 1000 ∧ RelDs k.tps ((P.bv j).map .int) vs) (fun j=>ob = P.obj j) (fun j rs=>∃ as,AtAll k.ad rs as ∧ RelA P ⟨k.tps,as⟩ (P.tm j) ob)
noncomputable abbrev RelOs (P : Vx) (k : Kn) : Sto → Led → Prop:=All2 fun o p=>RelO P k o p.2
structure Wd where
  led : Led
  tps : Led
noncomputable def Wd.kn (W : Wd) : Kn:=⟨W.tps,W.led.map (·.1)⟩
structure Sim (P : Vx) (W : Wd) (σ : Sto) : Prop where
  rel : RelOs P W.kn σ W.led
  nodup : (W.led.map (·.1)).Nodup
  tup : ∀ p ∈ W.tps,∃ vs,p.2 = tupO vs
noncomputable def AdLe (ad ad' : List Addr) : Prop:=∀ (i : Nat) (a : Addr),ad[i]? = some a → ad'[i]? = some a
theorem AdLe.append (ad l : List Addr) : AdLe ad (ad ++ l):=fun i a h=>(List.getElem?_append_left (List.getElem?_eq_some_iff.mp h).1).trans h
structure Kn.Le (k k' : Kn) : Prop where
  tps : ∀ p ∈ k.tps,p ∈ k'.tps
  ad : AdLe k.ad k'.ad
theorem Kn.Le.refl (k : Kn) : k.Le k:=⟨fun _ h=>h,fun _ _ h=>h⟩
theorem Kn.Le.trans {a b c : Kn} (x : a.Le b) (y : b.Le c) : a.Le c:=⟨fun p h=>y.tps p (x.tps p h),fun i q h=>y.ad i q (x.ad i q h)⟩
theorem RelD.mono {tps tps' : Led} (ht : ∀ p ∈ tps,p ∈ tps') (x : D) : ∀ v,RelD tps x v → RelD tps' x v :=
  @D.rec (fun x=>∀ v,RelD tps x v → RelD tps' x v) (fun xs=>∀ vs,RelDs tps xs vs → RelDs tps' xs vs) (fun _ h=>h) (fun _ _ h=>h) (fun _ _ h=>h) (fun _ _ h=>h) (fun xs ih v h=>relD_el h fun a vs m r=>relD_tup.mpr ⟨a,vs,rfl,ht _ m,ih vs r⟩) (fun _ h=>h) (fun x xs h1 h2 vs h=>h.el fun b r a b=>.cons (h1 _ a) (h2 r b)) x
theorem RelV.mono {k k' : Kn} (l : k.Le k') {x : SV} : ∀ {v},RelV k x v → RelV k' x v :=
  @SV.rec (fun x=>∀ {v},RelV k x v → RelV k' x v) (fun xs=>∀ {vs},RelVs k xs vs → RelVs k' xs vs) (fun x v h=>RelD.mono l.tps x v h) (fun i v h=>h.imp fun a h=>h.imp_left (l.ad i a)) (fun xs ih v h=>relV_el h fun a vs m r=>relV_tup.mpr ⟨a,vs,rfl,l.tps _ m,ih r⟩) (fun _ _ h=>h) (fun _ _ h=>h) (fun _ _ h=>h) (fun h=>h) (fun x xs h1 h2 vs h=>h.el fun b r a b=>.cons (h1 a) (h2 b)) x
theorem RelVs.mono {k k' : Kn} (l : k.Le k') {x : List SV} {v : List Value} (h : RelVs k x v) : RelVs k' x v:=All2.mono (fun _ _=>RelV.mono l) h
theorem RelDs.mono {tps tps' : Led} (ht : ∀ p ∈ tps,p ∈ tps') {x : List D} {v : List Value} (h : RelDs tps x v) : RelDs tps' x v:=All2.mono (RelD.mono ht) h
theorem DiR.mono {P : Vx} {k k' : Kn} (l : k.Le k') {es : List (Str × SV)} {ob : Obj} (h : DiR P k es ob) : DiR P k' es ob :=
  h.imp_right fun h=>h.imp fun _ h=>h.imp fun _ h=>h.imp_right (All2.mono fun _ _ h=>h.imp_right fun h=>h.imp_right (RelV.mono l))
theorem LsR.mono {ob : Obj} {p q : List Value → Prop} (h : LsR ob p) (f : ∀ vs,p vs → q vs) : LsR ob q:=h.imp fun vs h=>h.imp fun _ h=>h.imp_right (f vs)
theorem SyR.mono {P : Vx} {tps tps' : Led} (ht : ∀ p ∈ tps,p ∈ tps') {n : Nat} {al : List D} {l : LX} {vs : List Value} (h : SyR P tps n al l vs) : SyR P tps' n al l vs:=⟨h.1,h.2.1,h.2.2.mono ht⟩
theorem RelA.mono {P : Vx} {tps tps' : Led} (ht : ∀ p ∈ tps,p ∈ tps') {as : List Addr} (o : SO) {ob : Obj} : RelA P ⟨tps,as⟩ o ob → RelA P ⟨tps',as⟩ o ob:=by
  cases o with
  | sy n al l=>exact fun h=>LsR.mono h fun _ r=>SyR.mono ht r
  | di es=>exact fun h=>DiR.mono (k:=⟨tps,as⟩) (k':=⟨tps',as⟩) ⟨ht,fun _ _ h=>h⟩ h
  | _=>exact fun h=>h
theorem RelO.mono {P : Vx} {k k' : Kn} (l : k.Le k') (o : SO) {ob : Obj} : RelO P k o ob → RelO P k' o ob:=by
  cases o with
  | dl xs=>exact fun h=>LsR.mono h fun _ r=>RelDs.mono l.tps r
  | sy n al xs=>exact fun h=>LsR.mono h fun _ r=>SyR.mono l.tps r
  | ls xs=>exact fun h=>LsR.mono h fun _ r=>RelVs.mono l r
  | di es=>exact fun h=>DiR.mono l h
  | inst c d=>exact fun h=>h.imp fun dx h=>h.imp_left (l.ad _ _)
  | sd x=>exact fun h=>⟨h.1,DiR.mono l h.2⟩
  | bd j=>exact fun h=>LsR.mono h fun _ r=>⟨r.1,RelDs.mono l.tps r.2⟩
  | any j=>exact fun h=>h
  | as j rs=>exact fun h=>h.imp fun as h=>h.imp (All2.mono fun i a=>l.ad i a) (RelA.mono l.tps _)
theorem RelOs.mono {P : Vx} {k k' : Kn} (l : k.Le k') {σ : Sto} {L : Led} (h : RelOs P k σ L) : RelOs P k' σ L:=All2.mono (fun o _=>RelO.mono l o) h
theorem map_set_fst {l : Led} {i : Nat} {a : Addr} {o o' : Obj} (h : l[i]? = some (a,o)) : (l.set i (a,o')).map (·.1) = l.map (·.1):=by
  induction l generalizing i with
  | nil=>rfl
  | cons p l ih =>
    cases i with
    | zero=>exact congrArg (· :: l.map (·.1)) (congrArg Prod.fst (Option.some.inj h).symm)
    | succ i=>exact congrArg (p.1 :: ·) (ih h)
section
variable {P : Vx} {W : Wd} {σ : Sto}
theorem Sim.obj (S : Sim P W σ) {i : Nat} {o : SO} (e : σ[i]? = some o) : ∃ p,W.led[i]? = some p ∧ RelO P W.kn o p.2:=S.rel.get e
theorem Sim.set (S : Sim P W σ) {i : Nat} {o' : SO} {a : Addr} {ob ob' : Obj} (h : W.led[i]? = some (a,ob)) (r : RelO P W.kn o' ob') : Sim P ⟨W.led.set i (a,ob'),W.tps⟩ (σ.set i o'):=by
  have e : (⟨W.led.set i (a,ob'),W.tps⟩ : Wd).kn = W.kn:=congrArg (Kn.mk W.tps) (map_set_fst h)
  exact ⟨e ▸ All2.set (b:=(a,ob')) r S.rel,(map_set_fst h).symm ▸ S.nodup,S.tup⟩
theorem Sim.alloc (S : Sim P W σ) {o : SO} {a : Addr} {ob : Obj} (ha : a ∉ W.led.map (·.1)) (r : RelO P W.kn o ob) : Sim P ⟨W.led ++ [(a,ob)],W.tps⟩ (σ ++ [o]):=by
  have le : W.kn.Le (⟨W.led ++ [(a,ob)],W.tps⟩ : Wd).kn:=⟨fun _ h=>h,by show AdLe _ (List.map _ _); rw [List.map_append]; exact AdLe.append _ _⟩
  refine ⟨.mono le (All2.app (.one (b:=(a,ob)) r) S.rel),?_,S.tup⟩
  rw [List.map_append,List.nodup_append]
  exact ⟨S.nodup,List.nodup_cons.mpr ⟨List.not_mem_nil,List.nodup_nil⟩,fun x hx y hy e=>ha (by rw [← show y = a from List.mem_singleton.mp hy,← e]; exact hx)⟩
theorem Sim.more (S : Sim P W σ) {a : Addr} {vs : List Value} : Sim P ⟨W.led,(a,tupO vs) :: W.tps⟩ σ :=
  ⟨RelOs.mono (k:=W.kn) (k':=Wd.kn ⟨W.led,(a,tupO vs) :: W.tps⟩) ⟨fun _ h=>List.Mem.tail _ h,fun _ _ h=>h⟩ S.rel,S.nodup,fun p hp=>by
    rcases List.mem_cons.mp hp with rfl | hp
    · exact ⟨vs,rfl⟩
    · exact S.tup p hp⟩
end
noncomputable def NoCT (o : Obj) : Prop:=∀ vs,o ≠ tupO vs
theorem noCT_list (its : Array Value) (n : Nat) : NoCT (listOf its n):=fun _ e=>absurd (congrArg Obj.cls e) (by simp [tupO])
theorem noCT_dict (es : List DictEntry) (n : Nat) : NoCT (dictOf es n):=fun _ e=>absurd (congrArg Obj.cls e) (by simp [tupO])
structure Cx where
  V : Vx
  kept : Led
  K : Frag
  p : Program
  loose : List Str
  mg : Str → Option Value
  mb : Str → Option Value
noncomputable abbrev Cx.w (G : Cx) : World:=G.V.w
noncomputable abbrev Cx.M (G : Cx) : Model:=model pw G.w
noncomputable def GlobOk (K : Frag) (x : Str) (sv : SV) : Prop :=
  (∃ v,nsIn K mainGlobals x = some (some v) ∧ RelV ⟨[],[]⟩ sv v) ∨ (nsIn K mainGlobals x = some none ∧ x ≠ ("__name__" : Str) ∧ ∃ v,bootBuiltins x = some v ∧ RelV ⟨[],[]⟩ sv v)
noncomputable def kindX (k : NameKind) : NameKind:=nkK k .local .cell .cell .globalImplicit .globalExplicit
structure EnvOk (env : Env) (sc : Scope) : Prop where
  kind : env.scope.kind = .function
  globals : env.globals = mainGlobals
  builtins : env.builtins = builtinsNs
  names : ∀ x k,lk x sc.names = some k → env.kindOf x = some (kindX k)
  has : ∀ x,lk x sc.names = some .cell ∨ lk x sc.names = some .free → (env.cells.lookup x).isSome = true
structure Ct where
  A : Around
  base : Heap
  h₀ : Heap
  outer : List Env
  L : Addr
  m : Str → Option Value
  cells : Led
noncomputable abbrev Ct.all (c : Ct) (W : Wd) : Led:=c.cells ++ (W.led ++ W.tps)
noncomputable def VarOk (sc : Scope) (k : Kn) (ρ : Rho) (m cm : Str → Option Value) (cl : List (Str × Addr)) : Prop :=
  ∀ x sv,lk x ρ = some sv → (lk x sc.names = some .local → ∃ v,m x = some v ∧ RelV k sv v) ∧ (lk x sc.names = some .cell ∨ lk x sc.names = some .free → ∃ v,cm x = some v ∧ (cl.lookup x).isSome = true ∧ RelV k sv v)
structure Fz (G : Cx) (c : Ct) : Prop where
  B : ∀ h' m',Fr c.h₀ c.L h' m' → Below c.A c.base c.outer h'
  fro : ∀ e ∈ c.outer,∀ L',e.frame = some L' → L' = c.L ∨ (c.h₀.get? L').isSome = true
  X : G.K.In c.h₀
  T : TopRead G.p G.loose G.mg G.mb c.h₀
  kept : ∀ p ∈ G.kept,p ∈ c.cells
structure Fy (G : Cx) (c : Ct) (W : Wd) (σ : Sto) (h : Heap) : Prop where
  Z : Fz G c
  F : Fr c.h₀ c.L h c.m
  N : News c.h₀ c.L h (c.all W)
  lo : ∀ p ∈ W.led,(p.1 == sysModules) = false
  AC : ∀ p ∈ c.cells,∀ q ∈ W.led,p.1 ≠ q.1
  S : Sim G.V W σ
structure Fx (G : Cx) (c : Ct) (env : Env) (sc : Scope) (cm : Str → Option Value) (W : Wd) (ρ : Rho) (σ : Sto) (h : Heap) : Prop where
  Y : Fy G c W σ h
  L : c.L = env.locals
  E : EnvOk env sc
  C : ∃ cs,CellsAre cm env.cells cs ∧ ∀ p ∈ cs,p ∈ c.cells
  V : VarOk sc W.kn ρ c.m cm env.cells
noncomputable abbrev More (W W' : Wd) : Prop:=W.kn.Le W'.kn
theorem VarOk.more {sc : Scope} {k k' : Kn} {ρ : Rho} {m cm : Str → Option Value} {cl : List (Str × Addr)} (x : k.Le k') (h : VarOk sc k ρ m cm cl) : VarOk sc k' ρ m cm cl:=fun y sv e =>
  ⟨fun q=>((h y sv e).1 q).imp fun _ h=>h.imp_right (RelV.mono x),fun q=>((h y sv e).2 q).imp fun _ h=>h.imp_right fun h=>h.imp_right (RelV.mono x)⟩
noncomputable def Post (G : Cx) (c : Ct) (W : Wd) (sv : SV) (σ : Sto) (Q : Value → Shared → Prop) (s : Shared) : Prop :=
  ∀ ⦃v h' tk W'⦄,Fy G c W' σ h' → RelV W'.kn sv v → More W W' → Q v { s with heap:=h',toks:=tk }
theorem Post.tr {G : Cx} {c : Ct} {W W₁ : Wd} {sv : SV} {σ : Sto} {Q : Value → Shared → Prop} {s : Shared} {h : Heap} {tk : Nat} (k : Post G c W sv σ Q s) (m : More W W₁) : Post G c W₁ sv σ Q { s with heap:=h,toks:=tk }:=fun _ _ _ _ Y r m'=>k Y r (m.trans m')
theorem Post.here {G : Cx} {c : Ct} {W : Wd} {sv : SV} {σ : Sto} {Q : Value → Shared → Prop} {s : Shared} (k : Post G c W sv σ Q s) (Y : Fy G c W σ s.heap) {v : Value} {tk : Nat} (r : RelV W.kn sv v) : Q v { s with toks:=tk }:=k Y r (Kn.Le.refl _)
noncomputable def Room (n : Nat) (A : Around) : Prop:=A.handled = none ∧ A.depth + n ≤ 600 ∧ A.units + 20 * n ≤ 9000
theorem Room.le {n k : Nat} {A : Around} (h : Room n A) (hk : k ≤ n) : Room k A:=⟨h.1,Nat.le_trans (Nat.add_le_add_left hk _) h.2.1,Nat.le_trans (Nat.add_le_add_left (Nat.mul_le_mul_left 20 hk) _) h.2.2⟩
theorem Room.dn {n : Nat} {A : Around} (h : Room (n + 1) A) : Room n A:=h.le (Nat.le_succ n)
noncomputable def EvT (G : Cx) (n : Nat) (sc : Scope) (e : Expr) (ρ : Rho) (σ : Sto) (sv : SV) (σ' : Sto) : Prop :=
  ∀ ⦃c : Ct⦄ ⦃env : Env⦄ ⦃cm : Str → Option Value⦄ ⦃W : Wd⦄ ⦃E Q : Value → Shared → Prop⦄ ⦃s : Shared⦄,Room n c.A → Fx G c env sc cm W ρ σ s.heap → Post G c W sv σ' Q s → wpAny G.M c.A (eval e env) Q E s
noncomputable def EvOk (G : Cx) (n : Nat) (ev : Scope → Expr → Rho → Sto → Option (SV × Sto)) : Prop:=∀ sc e ρ σ,Sat (ev sc e ρ σ) (U2 (EvT G n sc e ρ σ))
noncomputable def PostB (G : Cx) (c : Ct) (W : Wd) (σ : Sto) (Q : Shared → Prop) (s : Shared) : Prop:=∀ ⦃h' tk W'⦄,Fy G c W' σ h' → More W W' → Q { s with heap:=h',toks:=tk }
theorem PostB.tr {G : Cx} {c : Ct} {W W₁ : Wd} {σ : Sto} {Q : Shared → Prop} {s : Shared} {h : Heap} {tk : Nat} (k : PostB G c W σ Q s) (m : More W W₁) : PostB G c W₁ σ Q { s with heap:=h,toks:=tk }:=fun _ _ _ Y m'=>k Y (m.trans m')
noncomputable def TstT (G : Cx) (n : Nat) (sc : Scope) (e : Expr) (ρ : Rho) (σ : Sto) (b : Bool) (σ' : Sto) : Prop :=
  ∀ ⦃c : Ct⦄ ⦃env : Env⦄ ⦃cm : Str → Option Value⦄ ⦃W : Wd⦄ ⦃E : Value → Shared → Prop⦄ ⦃Q : Bool → Shared → Prop⦄ ⦃s : Shared⦄,Room n c.A → Fx G c env sc cm W ρ σ s.heap → PostB G c W σ' (Q b) s → wpAny G.M c.A (PySem.isTrue e env (eval e env)) Q E s
noncomputable def TstOk (G : Cx) (n : Nat) (tst : Scope → Expr → Rho → Sto → Option (Bool × Sto)) : Prop:=∀ sc e ρ σ,Sat (tst sc e ρ σ) (U2 (TstT G n sc e ρ σ))
noncomputable def FnT (G : Cx) (n : Nat) (a : Nat) (args : List SV) (σ : Sto) (sv : SV) (σ' : Sto) : Prop :=
  ∀ ⦃c : Ct⦄ ⦃W : Wd⦄ ⦃C : Result → Shared → Prop⦄ ⦃s : Shared⦄ ⦃vals : List Value⦄,Room n c.A → Fy G c W σ s.heap → RelVs W.kn args vals → Post G c W sv σ' (fun v s'=>C (.ok (.ret v)) s') s → codeAny G.M c.A (.call (.ref a) ⟨vals,[]⟩) C s
noncomputable def OpT (G : Cx) (n : Nat) (f : Value) (vs : List SV) (σ : Sto) (sv : SV) (σ' : Sto) : Prop :=
  ∀ ⦃c : Ct⦄ ⦃W : Wd⦄ ⦃E Q : Value → Shared → Prop⦄ ⦃s : Shared⦄ ⦃vals : List Value⦄,Room n c.A → Fy G c W σ s.heap → RelVs W.kn vs vals → Post G c W sv σ' Q s → wpAny G.M c.A (call f vals) Q E s
theorem FnT.op {G : Cx} {n a : Nat} {args : List SV} {σ : Sto} {sv : SV} {σ' : Sto} (f : FnT G n a args σ sv σ') : OpT G n (.ref a) args σ sv σ':=fun _ _ _ _ _ _ hA Y r k=>wpAny_call (f hA Y r k)
noncomputable def FnOk (G : Cx) (n : Nat) (a : Nat) (F : Fn) : Prop:=∀ args σ,Sat (F args σ) (U2 (FnT G n a args σ))
theorem Fx.back {G : Cx} {c : Ct} {env : Env} {sc : Scope} {cm : Str → Option Value} {W W' : Wd} {ρ : Rho} {σ σ' : Sto} {h h' : Heap} (X : Fx G c env sc cm W ρ σ h) (Y : Fy G c W' σ' h') (x : More W W') : Fx G c env sc cm W' ρ σ' h':=⟨Y,X.L,X.E,X.C,X.V.more x⟩
theorem RelV.nil {k : Kn} {sv : SV} {v : Value} (h : RelV ⟨[],[]⟩ sv v) : RelV k sv v:=RelV.mono (k:=⟨[],[]⟩) (k':=k) ⟨fun _ hp=>absurd hp List.not_mem_nil,fun _ _ h=>nS h⟩ h
theorem cells_at {cm : Str → Option Value} {x : Str} {c : Addr} {cl : List (Str × Addr)} {cells : Led} (h : CellsAre cm cl cells) : cl.lookup x = some c → ∃ o,(c,o) ∈ cells ∧ o.data = .cell (cm x):=by
  induction h with
  | nil=>exact fun h=>nS h
  | @cons n c' o r rs hd _ ih =>
    intro h
    rw [List.lookup_cons] at h
    cases q : x == n with
    | true =>
      rw [q] at h
      cases h
      rw [beq_iff_eq.mp q]
      exact ⟨o,.head _,hd⟩
    | false =>
      rw [q] at h
      exact (ih h).imp fun o h=>h.imp_left (.tail _)
section
variable {G : Cx} {c : Ct} {env : Env} {sc : Scope} {cm : Str → Option Value} {W : Wd} {ρ : Rho} {σ : Sto} {E : Value → Shared → Prop} {s : Shared} {h : Heap}
theorem Fx.cellName (X : Fx G c env sc cm W ρ σ s.heap) {x : Str} {sv : SV} {k : NameKind} {pos : Pos} (hk : lk x sc.names = some k) (hkc : kindX k = .cell) (hdb : (x == ("__debug__" : Str)) = false) {Q : Value → Shared → Prop} (h : ∃ v,cm x = some v ∧ (env.cells.lookup x).isSome = true ∧ RelV W.kn sv v) (q : ∀ v,RelV W.kn sv v → Q v s) :
    wpAny G.M c.A (eval (.Name x pos) env) Q E s:=by
  obtain ⟨v,hv,hc,r⟩:=h
  obtain ⟨a,hc⟩:=Option.isSome_iff_exists.mp hc
  obtain ⟨cs,hC,hcs⟩:=X.C
  obtain ⟨o,hm,hd⟩:=cells_at hC hc
  exact wpAny_Name (wpAny_loadName_cell X.E.kind (hkc ▸ X.E.names x _ hk) hc ⟨o,(X.Y.N _ (List.mem_append_left _ (hcs _ hm))).1,hv ▸ hd⟩ (q v r)) hdb
theorem Fx.globName (X : Fx G c env sc cm W ρ σ s.heap) {x : Str} {sv : SV} {pos : Pos} (hk : lk x sc.names = some .globalImplicit) (hdb : (x == ("__debug__" : Str)) = false) {Q : Value → Shared → Prop} (g : GlobOk G.K x sv) (h : ∀ v,RelV W.kn sv v → Q v s) : wpAny G.M c.A (eval (.Name x pos) env) Q E s:=by
  have ng : s.heap.Ns env.globals G.mg:=X.E.globals ▸ X.Y.Z.T.g.keeps X.Y.F.keep
  have nb : s.heap.Ns env.builtins G.mb:=X.E.builtins ▸ X.Y.Z.T.b.keeps X.Y.F.keep
  rcases g with ⟨v,hv,r⟩ | ⟨hv,hn,v,hb,r⟩
  · exact Name_function_global X.E.kind (X.E.names x _ hk) (loadGlobal_global ng (mg_of X.Y.Z.X X.Y.Z.T.g hv) (h v r.nil)) hdb
  · exact Name_function_global X.E.kind (X.E.names x _ hk) (loadGlobal_builtin ng (mg_none_of X.Y.Z.X X.Y.Z.T.g hv) nb ((X.Y.Z.T.builtins x hn).trans hb) (h v r.nil)) hdb
theorem glob_mem (x : Str) : Sat (glob x) fun v=>(x,v) ∈ glT.toL:=.oS (BT.get_mem _ _) fun p hp=>.gd fun h=>.yes (by rw [← seq_eq h]; exact hp)
theorem Fx.name (X : Fx G c env sc cm W ρ σ s.heap) (gl : ∀ p ∈ glT.toL,GlobOk G.K p.1 p.2) {x : Str} (hd : (!seq x (Str.ofString "__debug__")) = true) {pos : Pos} {Q : Value → Shared → Prop} : Sat (nameV sc x ρ) fun sv=>(∀ v,RelV W.kn sv v → Q v s) → wpAny G.M c.A (eval (.Name x pos) env) Q E s:=by
  have hdb : (x == ("__debug__" : Str)) = false:=beq_eq_false_iff_ne.mpr fun q=>by rw [q,seq_self] at hd; exact nT hd
  refine .oo fun k hk=>?_
  cases k with
  | «local»=>exact fun sv e h=>let ⟨v,hv,r⟩:=(X.V x sv e).1 hk; wpAny_Name (wpAny_loadName_local X.E.kind (X.E.names x _ hk) (X.L ▸ X.Y.F.ns) hv (h v r)) hdb
  | cell=>exact fun sv e h=>X.cellName hk rfl hdb ((X.V x sv e).2 (.inl hk)) h
  | free=>exact fun sv e h=>X.cellName hk rfl hdb ((X.V x sv e).2 (.inr hk)) h
  | globalExplicit=>exact .no
  | globalImplicit=>exact (glob_mem x).mono fun sv e h=>X.globName hk hdb (gl (x,sv) e) h
end
theorem mem3 {α : Type} {a b c : List α} {x : α} : x ∈ a ++ (b ++ c) ↔ x ∈ a ∨ x ∈ b ∨ x ∈ c:=by rw [List.mem_append,List.mem_append]
noncomputable def Wd.set (W : Wd) (i : Nat) (p : Addr × Obj) : Wd:=⟨W.led.set i p,W.tps⟩
noncomputable def Wd.app (W : Wd) (p : Addr × Obj) : Wd:=⟨W.led ++ [p],W.tps⟩
theorem Wd.kn_set {W : Wd} {i : Nat} {a : Addr} {o o' : Obj} (h : W.led[i]? = some (a,o)) : (W.set i (a,o')).kn = W.kn:=congrArg (Kn.mk W.tps) (map_set_fst h)
theorem Kn.Le.of {k k' : Kn} (e : k' = k) : k.Le k':=e ▸ Kn.Le.refl _
theorem More.set {W : Wd} {i : Nat} {a : Addr} {o o' : Obj} (h : W.led[i]? = some (a,o)) : More W (W.set i (a,o')):=.of (W.kn_set h)
theorem More.app (W : Wd) (p : Addr × Obj) : More W (W.app p):=⟨fun _ h=>h,by show AdLe _ (List.map _ (_ ++ _)); rw [List.map_append]; exact AdLe.append _ _⟩
theorem More.tup (W : Wd) (p : Addr × Obj) : More W ⟨W.led,p :: W.tps⟩:=⟨fun _ h=>.tail _ h,fun _ _ h=>h⟩
section
variable {G : Cx} {c : Ct} {W : Wd} {σ : Sto} {E : Value → Shared → Prop} {s : Shared} {h h' : Heap} {a : Addr} {o : SO} {ob ob' : Obj} {i : Nat}
theorem Fy.hi (Y : Fy G c W σ h) : (h.objs.size == sysModules) = false:=beq_eq_false_iff_ne.mpr (Nat.ne_of_gt (modules_low (Y.Z.T.nolimit.keeps Y.F.keep)))
theorem Fy.lt (Y : Fy G c W σ h) : ∀ p ∈ c.all W,p.1 < h.objs.size:=fun p hp=>Heap.lt_size (Y.N p hp).1
theorem Fy.ne (Y : Fy G c W σ h) : ∀ p ∈ c.all W,p.1 ≠ h.objs.size:=fun p hp=>Nat.ne_of_lt (Y.lt p hp)
theorem Fy.inN (hi : W.led[i]? = some (a,ob)) : (a,ob) ∈ c.all W:=mem3.mpr (.inr (.inl (List.mem_of_getElem? hi)))
theorem Fy.inT (hi : (a,ob) ∈ W.tps) : (a,ob) ∈ c.all W:=mem3.mpr (.inr (.inr hi))
theorem Fy.get (Y : Fy G c W σ h) (hi : W.led[i]? = some (a,ob)) : h.get? a = some ob:=(Y.N _ (Fy.inN hi)).1
theorem Fy.getT (Y : Fy G c W σ h) (hi : (a,ob) ∈ W.tps) : h.get? a = some ob:=(Y.N _ (Fy.inT hi)).1
theorem Fy.loAt (Y : Fy G c W σ h) (hi : W.led[i]? = some (a,ob)) : (a == sysModules) = false:=Y.lo _ (List.mem_of_getElem? hi)
theorem Fy.at' (Y : Fy G c W σ h) (F' : Fr c.h₀ c.L h' c.m) (N' : News c.h₀ c.L h' (c.all W)) : Fy G c W σ h':=⟨Y.Z,F',N',Y.lo,Y.AC,Y.S⟩
theorem Fy.grow (Y : Fy G c W σ h) (ob : Obj) : Fy G c W σ (h.push ob):=Y.at' (Y.F.push ob) (Y.N.grown fun _ _ e=>Heap.get?_push_of_some _ e)
theorem Fy.news (Y : Fy G c W σ h) (F' : Fr c.h₀ c.L h' c.m) (N' : News c.h₀ c.L h' ((a,ob) :: c.all W)) (hn : ∀ p ∈ c.all W,p.1 ≠ a) (hm : (a == sysModules) = false) (r : RelO G.V W.kn o ob) : Fy G c (W.app (a,ob)) (σ ++ [o]) h':=by
  refine ⟨Y.Z,F',fun p hp=>N' p ?_,fun p hp=>?_,fun p hp q hq=>?_,Y.S.alloc (fun q=>?_) r⟩
  · rcases mem3.mp hp with hp | hp | hp
    · exact .tail _ (mem3.mpr (.inl hp))
    · rcases List.mem_append.mp hp with hp | hp
      · exact .tail _ (mem3.mpr (.inr (.inl hp)))
      · exact List.mem_singleton.mp hp ▸ .head _
    · exact .tail _ (Fy.inT hp)
  · rcases List.mem_append.mp hp with hp | hp
    · exact Y.lo p hp
    · exact List.mem_singleton.mp hp ▸ hm
  · rcases List.mem_append.mp hq with hq | hq
    · exact Y.AC p hp q hq
    · exact List.mem_singleton.mp hq ▸ hn p (mem3.mpr (.inl hp))
  · obtain ⟨p,hp,e⟩:=List.mem_map.mp q
    exact hn p (mem3.mpr (.inr (.inl hp))) e
theorem Fy.push (Y : Fy G c W σ h) (hf : ob.isFreed = false) (r : RelO G.V W.kn o ob) : Fy G c (W.app (h.objs.size,ob)) (σ ++ [o]) (h.push ob):=Y.news (Y.F.push ob) (Y.N.push Y.F ob hf) Y.ne Y.hi r
theorem Fy.pushT (Y : Fy G c W σ h) (vs : List Value) : Fy G c ⟨W.led,(h.objs.size,tupO vs) :: W.tps⟩ σ (h.push (tupO vs)):=by
  have N':=Y.N.push Y.F (tupO vs) rfl
  refine ⟨Y.Z,Y.F.push _,fun p hp=>N' p ?_,Y.lo,Y.AC,Y.S.more⟩
  rcases mem3.mp hp with hp | hp | hp
  · exact .tail _ (mem3.mpr (.inl hp))
  · exact .tail _ (mem3.mpr (.inr (.inl hp)))
  · rcases List.mem_cons.mp hp with rfl | hp
    · exact .head _
    · exact .tail _ (Fy.inT hp)
theorem Upd.pre {d : Addr} {o o' : Obj} {l l' : Led} (h : Upd d o o' l l') (pre : Led) (hp : ∀ p ∈ pre,p.1 ≠ d) : Upd d o o' (pre ++ l) (pre ++ l'):=by
  induction pre with
  | nil=>exact h
  | cons p r ih=>exact .tail (hp p (.head _)) (ih fun q hq=>hp q (.tail _ hq))
theorem upd_led {d : Addr} {o o' : Obj} {led tps : Led} (ht : ∀ p ∈ tps,p.1 ≠ d) : ∀ {i : Nat},led[i]? = some (d,o) → (led.map (·.1)).Nodup → Upd d o o' (led ++ tps) (led.set i (d,o') ++ tps):=by
  induction led with
  | nil=>exact fun h _=>nS h
  | cons p r ih =>
    intro i h nd
    rw [List.map_cons,List.nodup_cons] at nd
    cases i with
    | zero =>
      cases h
      refine .head fun q hq=>(List.mem_append.mp hq).elim (fun hq e=>nd.1 (List.mem_map.mpr ⟨q,hq,e⟩)) (ht q)
    | succ i=>exact .tail (fun e=>nd.1 (List.mem_map.mpr ⟨(d,o),List.mem_of_getElem? h,e.symm⟩)) (ih h nd.2)
theorem Fy.tupNe (Y : Fy G c W σ h) (hg : h.get? a = some ob) (n : NoCT ob) : ∀ p ∈ W.tps,p.1 ≠ a:=fun p hp e=>by
  obtain ⟨vs,hv⟩:=Y.S.tup p hp
  exact n vs (hv ▸ Option.some.inj (hg.symm.trans (e ▸ Y.getT hp)))
theorem Fy.updL (Y : Fy G c W σ h) (hi : W.led[i]? = some (a,ob)) (n : NoCT ob) : Upd a ob ob' (c.all W) (c.all (W.set i (a,ob'))) :=
  Upd.pre (upd_led (Y.tupNe (Y.get hi) n) hi Y.S.nodup) _ fun p hp=>Y.AC p hp _ (List.mem_of_getElem? hi)
theorem Fy.turn (Y : Fy G c W σ h) (hi : W.led[i]? = some (a,ob)) (F' : Fr c.h₀ c.L h' c.m) (N' : News c.h₀ c.L h' (c.all (W.set i (a,ob')))) (r : RelO G.V W.kn o ob') : Fy G c (W.set i (a,ob')) (σ.set i o) h' :=
  ⟨Y.Z,F',N',fun p hp=>(List.mem_or_eq_of_mem_set hp).elim (Y.lo p) fun e=>e.symm ▸ show ((a,ob').1 == sysModules) = false from Y.loAt hi,fun p hp q hq=>(List.mem_or_eq_of_mem_set hq).elim (Y.AC p hp q) fun e=>e.symm ▸ show p.1 ≠ (a,ob').1 from Y.AC p hp (a,ob) (List.mem_of_getElem? hi),Y.S.set hi r⟩
theorem Fy.upd (Y : Fy G c W σ h) (hi : W.led[i]? = some (a,ob)) (n : NoCT ob) (hs : Heap.SameBut a h h') (ho' : h'.get? a = some ob') (r : RelO G.V W.kn o ob') : Fy G c (W.set i (a,ob')) (σ.set i o) h':=by
  have z:=Y.N _ (Fy.inN hi)
  obtain ⟨pre,post,e1,e2,p1,p2⟩:=(Y.updL (ob':=ob') hi n).split
  exact Y.turn hi (Y.F.change hs z.2.1 z.2.2) (e2 ▸ news_set (e1 ▸ Y.N) p1 p2 hs ho') r
@[elab_as_elim] theorem Fy.ref (Y : Fy G c W σ h) (e : σ[i]? = some o) {v : Value} (r : RelV W.kn (.ref i) v) {P : Value → Prop} (k : ∀ a ob,W.led[i]? = some (a,ob) → RelO G.V W.kn o ob → h.get? a = some ob → P (.ref a)) : P v:=by
  obtain ⟨p,hl,ro⟩:=Y.S.obj e
  obtain ⟨a',ha',rfl⟩:=r
  have ha' : (W.led.map (·.1))[i]? = some a':=ha'
  rw [List.getElem?_map,hl] at ha'
  cases ha'
  exact k p.1 p.2 hl ro (Y.get hl)
theorem relV_new (S : Sim G.V W σ) : RelV (W.app (a,ob)).kn (.ref σ.length) (.ref a):=by
  refine ⟨a,?_,rfl⟩
  show (List.map _ (_ ++ _))[_]? = _
  rw [List.map_append,← S.rel.length,← List.length_map (as:=W.led) (f:=(·.1))]
  exact List.getElem?_concat_length
theorem Post.new {Q : Value → Shared → Prop} (k : Post G c W (.ref σ.length) (σ ++ [o]) Q s) (Y : Fy G c W σ s.heap) (F' : Fr c.h₀ c.L h' c.m) (N' : News c.h₀ c.L h' ((a,ob) :: c.all W)) (hn : ∀ p ∈ c.all W,p.1 ≠ a) (hm : (a == sysModules) = false) (r : RelO G.V W.kn o ob) {tk : Nat} : Q (.ref a) { s with heap:=h',toks:=tk } :=
  k (Y.news F' N' hn hm r) (relV_new Y.S) (More.app _ _)
theorem Post.push {Q : Value → Shared → Prop} (k : Post G c W (.ref σ.length) (σ ++ [o]) Q s) (Y : Fy G c W σ s.heap) (r : RelO G.V W.kn o ob) (hf : ob.isFreed = false:=by rfl) {tk : Nat} : Q (.ref s.heap.objs.size) { s with heap:=s.heap.push ob,toks:=tk } :=
  k (Y.push hf r) (relV_new Y.S) (More.app _ _)
theorem Post.upd {Q : Value → Shared → Prop} {sv : SV} {v : Value} (k : Post G c W sv (σ.set i o) Q s) (Y : Fy G c W σ s.heap) (hi : W.led[i]? = some (a,ob)) (n : NoCT ob) (hs : Heap.SameBut a s.heap h') (ho' : h'.get? a = some ob') (r : RelO G.V W.kn o ob') (rv : RelV W.kn sv v) {tk : Nat} : Q v { s with heap:=h',toks:=tk } :=
  k (Y.upd hi n hs ho' r) ((W.kn_set hi).symm ▸ rv) (More.set hi)
end
section
variable {k : Kn} {ad : List Addr} {tps : Led}
theorem relV_int {i : Int} {t : Tok} : RelV k (.d (.int i)) (.int i t):=⟨t,rfl⟩
theorem relV_str {x : Str} {t : Tok} : RelV k (.d (.str x)) (.str x t):=⟨t,rfl⟩
theorem relV_none : RelV k (.d .none) .none:=rfl
theorem relV_bool {b : Bool} : RelV k (.d (.bool b)) (.bool b):=rfl
@[elab_as_elim] theorem RelV.i {x : Int} {v : Value} {P : Value → Prop} (h : RelV k (.d (.int x)) v) (q : ∀ t,P (.int x t)) : P v:=by obtain ⟨t,rfl⟩:=h; exact q t
@[elab_as_elim] theorem RelV.s {x : Str} {v : Value} {P : Value → Prop} (h : RelV k (.d (.str x)) v) (q : ∀ t,P (.str x t)) : P v:=by obtain ⟨t,rfl⟩:=h; exact q t
theorem relVs_allD (vs : List SV) : Sat (allD vs) fun ds=>∀ ws,RelVs k vs ws → RelDs k.tps ds ws:=by
  induction vs with
  | nil=>exact .yes fun _ h=>h
  | cons v vs ih=>exact .vD (P:=fun v ds=>∀ ws,RelVs k (v :: vs) ws → RelDs k.tps ds ws) fun x=>.om fun ds e ws h=>h.el fun w r h1 h2=>.cons h1 (ih e r h2)
theorem relO_mkL {P : Vx} {vs : List SV} {ws : List Value} {n : Nat} (r : RelVs k vs ws) : RelO P k (mkL vs) (listOf ws.toArray n):=by
  unfold mkL
  cases e : allD vs with
  | none=>exact ⟨ws,n,rfl,r⟩
  | some ds=>exact ⟨ws,n,rfl,relVs_allD vs e ws r⟩
theorem relV_mkT {vs : List SV} {ws : List Value} {a : Addr} (m : (a,tupO ws) ∈ k.tps) (r : RelVs k vs ws) : RelV k (mkT vs) (.ref a):=by
  unfold mkT
  cases e : allD vs with
  | none=>exact relV_tup.mpr ⟨a,ws,rfl,m,r⟩
  | some ds=>exact relD_tup.mpr ⟨a,ws,rfl,m,relVs_allD vs e ws r⟩
theorem relVs_ofD {x : List D} {u : List Value} (h : RelDs k.tps x u) : RelVs k (K.lmap .d x) u:=K.lmap_eq SV.d x ▸ All2.map (S:=RelV k) (f:=SV.d) (fun _ _ h=>h) h
end
section
variable {G : Cx} {c : Ct} {W : Wd} {σ : Sto} {E : Value → Shared → Prop} {s : Shared}
theorem Fy.newList (Y : Fy G c W σ s.heap) {vs : List SV} {ws : List Value} (hz : vs.length ≤ 1000) (r : RelVs W.kn vs ws) {Q : Value → Shared → Prop} (k : Post G c W (.ref σ.length) (σ ++ [mkL vs]) Q s) : wpAny G.M c.A (PySem.newList ws) Q E s :=
  wpAny_newList (k.push Y (relO_mkL r)) (by rw [All2.length r]; exact Nat.le_trans hz (by decide))
theorem Fy.newTuple (Y : Fy G c W σ s.heap) {vs : List SV} {ws : List Value} (hz : vs.length ≤ 1000) (r : RelVs W.kn vs ws) {Q : Value → Shared → Prop} (k : Post G c W (mkT vs) σ Q s) : wpAny G.M c.A (PySem.newTuple ws) Q E s :=
  wpAny_newTuple (k (Y.pushT ws) (relV_mkT (.head _) (r.mono (More.tup _ _))) (More.tup _ _)) (by rw [All2.length r]; exact Nat.le_trans hz (by decide))
@[elab_as_elim] theorem relD_at (Y : Fy G c W σ s.heap) {xs : List D} {v : Value} (r : RelV W.kn (.d (.tup xs)) v) {P : Value → Prop} (k : ∀ a vs,IsTup s.heap a vs.toArray → RelDs W.tps xs vs → P (.ref a)) : P v:=relD_el (P:=P) r fun a vs m r=>k a vs ⟨tupO vs,Y.getT m,rfl,0,rfl⟩ r
@[elab_as_elim] theorem relV_at (Y : Fy G c W σ s.heap) {xs : List SV} {v : Value} (r : RelV W.kn (.tup xs) v) {P : Value → Prop} (k : ∀ a vs,IsTup s.heap a vs.toArray → RelVs W.kn xs vs → P (.ref a)) : P v:=relV_el (P:=P) r fun a vs m r=>k a vs ⟨tupO vs,Y.getT m,rfl,0,rfl⟩ r
end
inductive CatR (P : Vx) (k : Kn) (o : SO) (ob ob' : Obj) : Prop
  | mk (ws us : List Value) (n n' : Nat) (h : ob = listOf ws.toArray n) (h' : ob' = listOf us.toArray n') (hz : ws.length + us.length ≤ 1000) (r : ∀ j,RelO P k o (listOf (ws ++ us).toArray j))
inductive SnocR (P : Vx) (k : Kn) (o : SO) (ob : Obj) (v : Value) : Prop
  | mk (ws : List Value) (n : Nat) (h : ob = listOf ws.toArray n) (hz : ws.length ≤ 1000) (r : ∀ j,RelO P k o (listOf (ws ++ [v]).toArray j))
theorem All2.kapp {α β : Type} {R : α → β → Prop} {x u : List α} {y w : List β} (k : All2 R u w) (h : All2 R x y) : All2 R (K.app x u) (y ++ w):=by
  rw [K.app_eq]
  exact .app k h
section
variable {P : Vx} {k : Kn} {x y : SO} {ob : Obj}
theorem lsOf_s {γ : Type} {f : List SV → Option γ} {Q : γ → Prop} (r : RelO P k x ob) (h : ∀ xs,LsR ob (RelVs k xs) → Sat (f xs) Q) : Sat (lsOf x f) Q:=fun _ e =>
  Sat.oL (P:=fun o z=>RelO P k o ob → Q z) (fun xs z e r=>h _ (LsR.mono r fun _ r=>relVs_ofD r) e) (fun xs z e r=>h xs r e) (fun _ _ _=>.no) e r
theorem catL_s {b : List SV} {us : List Value} {n' : Nat} (r' : RelVs k b us) (r : RelO P k x ob) : Sat (catL x b) fun o=>CatR P k o ob (listOf us.toArray n') :=
  lsOf_s r fun xs h=>.glen fun hz=>.yes <| by
    obtain ⟨ws,n,rfl,rd⟩:=h
    rw [K.app_eq] at hz ⊢
    exact ⟨ws,us,n,n',rfl,rfl,by rw [All2.length rd,All2.length r',← List.length_append]; exact hz,fun j=>⟨_,j,rfl,All2.app r' rd⟩⟩
theorem catS_s {m : Nat} {be : List D} {l : LX} {us : List Value} {n' : Nat} (r' : SyR P k.tps m be l us) : Sat (catS x m be l) fun o=>∀ ob,RelO P k x ob → CatR P k o ob (listOf us.toArray n'):=by
  have hl:=All2.length r'.2.2
  refine .oL (P:=fun x o=>∀ ob,RelO P k x ob → CatR P k o ob (listOf us.toArray n')) (fun xs=>.l0 (P:=fun xs o=>∀ ob,RelO P k (.dl xs) ob → CatR P k o ob (listOf us.toArray n')) (.gle fun hm=>.yes fun ob r=>?_)) (fun _=>.no) fun n al l'=>.gle fun hm=>.yes fun ob r=>?_
  · obtain ⟨ws,n,rfl,r⟩:=r
    exact r.el0 ⟨[],us,n,n',rfl,rfl,by rw [hl,List.length_nil,Nat.zero_add]; exact Nat.le_trans r'.2.1 hm,fun j=>⟨us,j,rfl,r'⟩⟩
  · obtain ⟨ws,i,rfl,ha,hz,rd⟩:=r
    rw [K.app_eq]
    exact ⟨ws,us,i,n',rfl,rfl,by rw [All2.length rd,hl]; exact Nat.le_trans (Nat.add_le_add hz r'.2.1) hm,fun j=>⟨_,j,rfl,fun z hz=>List.mem_append.mpr ((List.mem_append.mp hz).imp (ha z) (r'.1 z)),by show (den _ _ ++ den _ _).length ≤ _; rw [List.length_append]; exact Nat.add_le_add hz r'.2.1,All2.app r'.2.2 rd⟩⟩
theorem catO_s : Sat (catO x y) fun o=>∀ ⦃ob ob'⦄,RelO P k x ob → RelO P k y ob' → CatR P k o ob ob':=by
  refine .oL (P:=fun y o=>∀ ⦃ob ob'⦄,RelO P k x ob → RelO P k y ob' → CatR P k o ob ob') (fun ys o e ob ob' r r'=>?_) (fun ys o e ob ob' r r'=>?_) (fun m be l o e ob ob' r r'=>?_)
  · obtain ⟨us,n',rfl,r'⟩:=r'
    exact catL_s (relVs_ofD r') r e
  · obtain ⟨us,n',rfl,r'⟩:=r'
    exact catL_s r' r e
  · obtain ⟨us,n',rfl,r'⟩:=r'
    exact catS_s r' e ob r
theorem snocV {xs : List D} {y : SV} {v : Value} (r' : RelV k y v) {ws : List Value} (rd : RelDs k.tps xs ws) (j : Nat) : LsR (listOf (ws ++ [v]).toArray j) (RelVs k (K.app (K.lmap .d xs) [y])):=⟨_,j,rfl,All2.kapp (.one r') (relVs_ofD rd)⟩
theorem snocO_s {y : SV} {v : Value} (r' : RelV k y v) : Sat (snocO x y) fun o=>∀ ⦃ob⦄,RelO P k x ob → SnocR P k o ob v:=by
  refine .oL (P:=fun x o=>∀ ⦃ob⦄,RelO P k x ob → SnocR P k o ob v) (fun xs=>.glen fun hz=>.yes fun ob r=>?_) (fun xs=>.glen fun hz=>.yes fun ob r=>?_) fun m al l o e=>Sat.vD (P:=fun y o=>RelV k y v → ∀ ⦃ob⦄,RelO P k (.sy m al l) ob → SnocR P k o ob v) (fun y=>.gle fun hz=>.yes fun r' ob r=>?_) e r'
  · obtain ⟨ws,n,rfl,rd⟩:=r
    refine ⟨ws,n,rfl,by rw [All2.length rd]; exact hz,fun j=>?_⟩
    cases y with
    | d y=>exact ⟨_,j,rfl,All2.kapp (.one (show RelD k.tps y v from r')) rd⟩
    | _=>exact snocV r' rd j
  · obtain ⟨ws,n,rfl,rd⟩:=r
    exact ⟨ws,n,rfl,by rw [All2.length rd]; exact hz,fun j=>⟨_,j,rfl,All2.kapp (.one r') rd⟩⟩
  · obtain ⟨ws,n,rfl,ha,hn,rd⟩:=r
    refine ⟨ws,n,rfl,by rw [All2.length rd]; exact Nat.le_trans hn hz,fun j=>⟨_,j,rfl,fun z hz=>(List.mem_append.mp (show z ∈ _ ++ _ from hz)).elim (fun h=>.tail _ (ha z h)) fun h=>List.mem_singleton.mp h ▸ .head _,?_,All2.app (.one (show RelD k.tps y v from r')) rd⟩⟩
    show (_ ++ [_]).length ≤ _
    rw [List.length_append]
    exact Nat.succ_le_succ hn
end
noncomputable def BinT (G : Cx) (op : Operator) (a b : SV) (σ : Sto) (sv : SV) (σ' : Sto) : Prop :=
  ∀ ⦃c : Ct⦄ ⦃W : Wd⦄ ⦃E Q : Value → Shared → Prop⦄ ⦃s : Shared⦄ ⦃va vb : Value⦄,Fy G c W σ s.heap → RelV W.kn a va → RelV W.kn b vb → Post G c W sv σ' Q s → wpAny G.M c.A (binaryOp op va vb) Q E s
theorem mulOk {x y : Int} (h : x.natAbs < 2 ^ 60 ∨ y.natAbs < 2 ^ 60) : IntMulOk x y:=by
  have b : ∀ k : Int,k.natAbs < 2 ^ 60 → ¬ (Builtin.Int.intBits k > shortFactorBits):=fun k hk q=>by
    have:=intBits_le_64 (k:=k) (by omega) (by omega)
    unfold shortFactorBits at q
    omega
  unfold IntMulOk
  rcases h with h | h
  · simp [b x h]
  · simp [b y h]
theorem noPylong {x y : Int} (h0 : 0 < y) (h : y < 2 ^ 200) : Builtin.divisionGoesByPylong x y = false:=by
  have hl : y.natAbs.log2 < 200:=(Nat.log2_lt (by omega)).mpr (by omega)
  have : ¬ ((if (y == 0) = true then 0 else y.natAbs.log2 / 30 + 1) > 300):=by split <;> omega
  unfold Builtin.divisionGoesByPylong
  simp only [this,decide_false,Bool.false_and]
theorem foldl_app (l : List (Array Value)) : ∀ a : Array Value,l.foldl (fun x1 x2=>x1 ++ x2) a = (a.toList ++ (l.map (·.toList)).flatten).toArray:=by
  induction l with
  | nil=>exact fun a=>by simp
  | cons b l ih=>exact fun a=>by rw [List.foldl_cons,ih]; simp
theorem repl_is (ws : List Value) (k : Nat) : (List.foldl (fun x1 x2=>x1 ++ x2) #[] (List.replicate (if ws.toArray.isEmpty = true then 0 else k) ws.toArray) : Array Value) = ((List.replicate k ws).flatten).toArray:=by
  rw [foldl_app]
  cases ws with
  | nil=>simp
  | cons a r=>simp
theorem strMulOk {x : Str} {n : Int} (h : 0 ≤ n ∧ n ≤ 100 ∧ x.length ≤ 10) : MulOk x n:=by
  refine ⟨by simp; omega,fun h1 _=>?_,fun h1 _=>?_⟩
  · have : (100 : Int) ≤ (2 ^ 63 - 1) / n:=Int.le_ediv_of_mul_le (by omega) (by omega)
    omega
  · have : x.length * n.toNat ≤ 10 * 100:=Nat.mul_le_mul h.2.2 (by omega)
    unfold Builtin.Str.tooLong sizeLine
    exact decide_eq_false (by omega)
section
variable {G : Cx} {σ : Sto} {a b : SV} {op : Operator}
theorem ints_s {f : Int → Int → Option Int} (h : ∀ x y,Sat (f x y) fun z=>∀ ⦃A : Around⦄ ⦃E Q : Value → Shared → Prop⦄ ⦃s : Shared⦄ ⦃t u : Tok⦄,(∀ t tk,Q (.int z t) { s with toks:=tk }) → wpAny G.M A (binaryOp op (.int x t) (.int y u)) Q E s) : Sat (bI2 a b σ f) (U2 (BinT G op a b σ)) :=
  .vInt (P:=fun a=>U2 (BinT G op a b σ)) fun x=>.vInt (P:=fun b=>U2 (BinT G op _ b σ)) fun y=>.om fun z e c W E Q s va vb Y ra rb k=>ra.i (P:=fun va=>wpAny G.M c.A (binaryOp op va vb) Q E s) fun t=>rb.i (P:=fun vb=>wpAny G.M c.A (binaryOp op _ vb) Q E s) fun u=>h x y e fun t tk=>k.here Y relV_int
theorem bAdd_s : Sat (bAdd a b σ) (U2 (BinT G .Add a b σ)):=by
  refine .vK (P:=fun a=>U2 (BinT G .Add a b σ)) (fun x=>.dK (P:=fun x=>U2 (BinT G .Add (.d x) b σ)) (fun x=>.vInt (P:=fun b=>U2 (BinT G .Add _ b σ)) fun y=>.yes ?_) (fun x=>.vStr (P:=fun b=>U2 (BinT G .Add _ b σ)) fun y=>.gle fun hm=>.yes ?_) fun _=>.no) (fun i=>.vRef (P:=fun b=>U2 (BinT G .Add _ b σ)) fun j=>.aO fun x e1=>.aO fun y e2=>.oo fun o ho=>.nw ?_) fun _=>.no
  · exact fun c W E Q s va vb Y ra rb k=>ra.i (P:=fun va=>wpAny G.M c.A (binaryOp .Add va vb) Q E s) fun t=>rb.i (P:=fun vb=>wpAny G.M c.A (binaryOp .Add _ vb) Q E s) fun u=>add_int (k.here Y relV_int)
  · exact fun c W E Q s va vb Y ra rb k=>ra.s (P:=fun va=>wpAny G.M c.A (binaryOp .Add va vb) Q E s) fun t=>rb.s (P:=fun vb=>wpAny G.M c.A (binaryOp .Add _ vb) Q E s) fun u=>add_str (fun t' tk=>k.here Y relV_str) (Nat.le_trans hm (by decide))
  · refine fun c W E Q s va vb Y ra rb k=>Y.ref (P:=fun va=>wpAny G.M c.A (binaryOp .Add va vb) Q E s) e1 ra fun a ob hl ro hg=>Y.ref (P:=fun vb=>wpAny G.M c.A (binaryOp .Add _ vb) Q E s) e2 rb fun b ob' hl' ro' hg'=>?_
    obtain ⟨ws,us,n,n',rfl,rfl,hz,hr⟩:=catO_s ho ro ro'
    refine add_arrays Y.F Y.N ⟨_,hg,rfl,n,rfl⟩ ⟨_,hg',rfl,n',rfl⟩ (fun h' F' N'=>k.new Y F' N' Y.ne Y.hi (hr 0)) ?_
    rw [List.size_toArray,List.size_toArray]
    exact Nat.le_trans hz (by decide)
theorem bMul_s : Sat (bMul a b σ) (U2 (BinT G .Mult a b σ)):=by
  refine .vInt (P:=fun b=>U2 (BinT G .Mult a b σ)) fun y=>.vK (P:=fun a=>U2 (BinT G .Mult a _ σ)) (fun x=>.dK (P:=fun x=>U2 (BinT G .Mult (.d x) _ σ)) (fun x=>.ite fun hm=>.yes ?_) (fun x=>.ite fun hm=>.yes ?_) fun _=>.no) (fun i=>.aDl fun xs e1=>.ite fun hm=>.glen fun hx=>.nw ?_) fun _=>.no
  · exact fun c W E Q s va vb Y ra rb k=>ra.i (P:=fun va=>wpAny G.M c.A (binaryOp .Mult va vb) Q E s) fun t=>rb.i (P:=fun vb=>wpAny G.M c.A (binaryOp .Mult _ vb) Q E s) fun u=>mul_int (k.here Y relV_int) (mulOk hm)
  · exact fun c W E Q s va vb Y ra rb k=>ra.s (P:=fun va=>wpAny G.M c.A (binaryOp .Mult va vb) Q E s) fun t=>rb.i (P:=fun vb=>wpAny G.M c.A (binaryOp .Mult _ vb) Q E s) fun u=>SB.mul (strMulOk hm) fun t' tk=>k.here Y relV_str
  · refine fun c W E Q s va vb Y ra rb k=>rb.i (P:=fun vb=>wpAny G.M c.A (binaryOp .Mult va vb) Q E s) fun u=>Y.ref (P:=fun va=>wpAny G.M c.A (binaryOp .Mult va _) Q E s) e1 ra fun a ob hl ro hg=>?_
    obtain ⟨ws,n,rfl,rd⟩:=ro
    have hz : ws.length ≤ 10:=All2.length rd ▸ hx
    refine mul_list Y.F Y.N hg (by omega) (by omega) ?_ fun h' F' N'=>k.new Y F' (repl_is ws _ ▸ N') Y.ne Y.hi ⟨_,0,rfl,All2.repl rd _⟩
    rw [List.size_toArray]
    exact Nat.le_trans (Nat.mul_le_mul hz (Int.toNat_le.mpr (show _ ≤ (100 : Int) from hm.2))) (by decide)
theorem binop_s : Sat (binop op a b σ) (U2 (BinT G op a b σ)):=by
  cases op with
  | Add=>exact bAdd_s
  | Mult=>exact bMul_s
  | Sub=>exact ints_s fun x y=>.yes fun A E Q s t u k=>sub_int (k _ _)
  | FloorDiv=>exact ints_s fun x y=>.ite fun hm=>.yes fun A E Q s t u k=>floordiv_int (Int.ne_of_gt hm.1) (k _ _) (.inl (noPylong hm.1 hm.2))
  | Mod=>exact ints_s fun x y=>.ite fun hm=>.yes fun A E Q s t u k=>mod_int' (Int.ne_of_gt hm) (k _ _)
  | Pow=>exact ints_s fun x y=>.ite fun hm=>.yes fun A E Q s t u k=>pow_int_small hm.2.1 (by omega) (by rw [hm.1]; decide) (k _ _)
  | _=>exact .no
end
noncomputable abbrev RelKV (k : Kn) : List (Str × SV) → List (Str × Value) → Prop:=All2 fun p q=>q.1 = p.1 ∧ RelV k p.2 q.2
noncomputable abbrev keyed {α : Type} (l : List (Str × α)) : List Str:=l.map (·.1)
section
variable {k : Kn}
theorem RelKV.keys {es : List (Str × SV)} : ∀ {kvs : List (Str × Value)},RelKV k es kvs → keyed kvs = keyed es:=by
  induction es with
  | nil=>exact fun h=>h.el0 rfl
  | cons p ps ih=>exact fun h=>h.el fun q r h1 h2=>congr (congrArg List.cons h1.1) (ih h2)
theorem valueAt_cons {x : Str} {q : Str × Value} {r : List (Str × Value)} : valueAt (q :: r) x = if q.1 = x then some q.2 else valueAt r x:=by
  unfold valueAt
  by_cases h : q.1 = x
  · rw [if_pos h,List.find?_cons_of_pos (by simpa using h)]; rfl
  · rw [if_neg h,List.find?_cons_of_neg (by simpa using h)]
noncomputable def OptR (R : SV → Value → Prop) (a : Option SV) (b : Option Value) : Prop:=@Option.rec SV (fun _=>Prop) (b = none) (fun x=>∃ v,b = some v ∧ R x v) a
theorem RelKV.at' {x : Str} {es : List (Str × SV)} : ∀ {kvs : List (Str × Value)},RelKV k es kvs → OptR (RelV k) (lk x es) (valueAt kvs x):=by
  induction es with
  | nil=>exact fun h=>h.el0 rfl
  | cons p ps ih =>
    exact fun h=>h.el fun q r h1 h2=>by
      rw [lk_cons,valueAt_cons,h1.1]
      by_cases e : p.1 = x
      · rw [if_pos e,if_pos e]; exact ⟨_,rfl,h1.2⟩
      · rw [if_neg e,if_neg e]; exact ih h2
theorem RelKV.some {x : Str} {sv : SV} {es : List (Str × SV)} {kvs : List (Str × Value)} (h : RelKV k es kvs) (e : lk x es = some sv) : ∃ v,valueAt kvs x = some v ∧ RelV k sv v:=by
  have:=h.at' (x:=x)
  rw [e] at this
  exact this
theorem RelKV.none {x : Str} {es : List (Str × SV)} {kvs : List (Str × Value)} (h : RelKV k es kvs) (e : lk x es = none) : valueAt kvs x = none:=by
  have:=h.at' (x:=x)
  rw [e] at this
  exact this
theorem stored_cons {x : Str} {v : Value} {p : Str × Value} {r : List (Str × Value)} (nd : (keyed (p :: r)).Nodup) : stored (p :: r) x v = if p.1 = x then (p.1,v) :: r else p :: stored r x v:=by
  unfold stored
  by_cases h : p.1 = x
  · subst h
    rw [if_pos rfl,if_pos (by simp),List.map_cons,if_pos rfl,map_store_of_not_mem r p.1 v (List.nodup_cons.mp nd).1]
  · simp only [List.any_cons,h,decide_false,Bool.false_or,List.map_cons,if_false]
    split <;> rfl
theorem RelKV.put {x : Str} {sv : SV} {v : Value} (hv : RelV k sv v) {es : List (Str × SV)} : ∀ {kvs : List (Str × Value)},RelKV k es kvs → (keyed es).Nodup → RelKV k (put x sv es) (stored kvs x v):=by
  induction es with
  | nil=>exact fun h _=>h.el0 (.one ⟨rfl,hv⟩)
  | cons p ps ih =>
    exact fun h nd=>by
      have hk:=h.keys
      refine h.el (P:=fun kvs=>keyed kvs = keyed (p :: ps) → RelKV k (Mine.put x sv (p :: ps)) (stored kvs x v)) (fun q r h1 h2 hk=>?_) hk
      rw [stored_cons (hk ▸ nd),put_cons,h1.1]
      by_cases e : p.1 = x
      · rw [if_pos e,if_pos e]; exact .cons ⟨rfl,hv⟩ h2
      · rw [if_neg e,if_neg e]; exact .cons h1 (ih h2 (List.nodup_cons.mp nd).2)
variable {w : World} {prog : Program}
inductive PairsR (k : Kn) (w : World) (prog : Program) (es : List (Str × SV)) (ds : List DictEntry) : Prop
  | mk (kvs : List (Str × Value)) (hp : Pairs (strKind prog w) ds kvs) (ha : ∀ e ∈ ds,∃ k,(strKind prog w).is k e.key = true ∧ e.hash = (strKind prog w).hash k) (hr : RelKV k es kvs)
theorem RelEs.pairs {es : List (Str × SV)} : ∀ {ds : List DictEntry},RelEs w.params k es ds → PairsR k w prog es ds:=by
  induction es with
  | nil=>exact fun h=>h.el0 ⟨[],.nil,fun _ q=>absurd q List.not_mem_nil,rfl⟩
  | cons p ps ih =>
    refine fun h=>h.el fun e r h1 h2=>?_
    obtain ⟨⟨t,hk⟩,hh,hv⟩:=h1
    obtain ⟨kvs,hp,ha,hr⟩:=ih h2
    have hi : (strKind prog w).is p.1 e.key = true:=hk ▸ strKind_is prog w p.1 t
    exact ⟨(p.1,e.val) :: kvs,.cons hi rfl hp,fun e' he=>(List.mem_cons.mp he).elim (fun q=>q ▸ ⟨p.1,hi,hh⟩) (ha e'),.cons ⟨rfl,hv⟩ hr⟩
theorem RelKV.entries {es : List (Str × SV)} : ∀ {ds : List DictEntry} {kvs : List (Str × Value)},RelKV k es kvs → Pairs (strKind prog w) ds kvs → (∀ e ∈ ds,∃ k,(strKind prog w).is k e.key = true ∧ e.hash = (strKind prog w).hash k) → RelEs w.params k es ds:=by
  induction es with
  | nil=>exact fun h=>h.el0 (P:=fun kvs=>Pairs (strKind prog w) _ kvs → _ → _) fun hp _=>by cases hp; rfl
  | cons p ps ih =>
    refine fun {ds kvs} h=>h.el (P:=fun kvs=>Pairs (strKind prog w) ds kvs → (∀ e ∈ ds,∃ k,(strKind prog w).is k e.key = true ∧ e.hash = (strKind prog w).hash k) → RelEs w.params k (p :: ps) ds) fun q r h1 h2 hp ha=>?_
    cases hp with
    | @cons e kv es' kvs' hi hv hp =>
      obtain ⟨t,ht⟩:=Value.isStrOf_shape hi
      obtain ⟨k,hk,hh⟩:=ha e (.head _)
      have : k = p.1:=((strKind prog w).inj _ _ _ hk hi).trans h1.1
      exact .cons ⟨⟨t,by rw [ht,h1.1]⟩,by rw [hh,this]; rfl,hv ▸ h1.2⟩ (ih h2 hp fun e' he=>ha e' (.tail _ he))
inductive DiK (k : Kn) (w : World) (prog : Program) (es : List (Str × SV)) (o : Obj) : Prop
  | mk (nd : (keyed es).Nodup) (kvs : List (Str × Value)) (hd : o.IsDictOf (strKind prog w) kvs) (hr : RelKV k es kvs)
theorem relO_di {X : Vx} {es : List (Str × SV)} {o : Obj} (h : DiR X k es o) : DiK k X.w prog es o:=by
  obtain ⟨nd,ds,n,rfl,r⟩:=h
  obtain ⟨kvs,hp,ha,hr⟩:=RelEs.pairs (prog:=prog) r
  exact ⟨nd,kvs,⟨ds.toArray,n,⟨rfl,rfl,rfl⟩,rfl,fun e he=>ha e (List.mem_toArray.mp he),hp,show (keyed kvs).Nodup from hr.keys.symm ▸ show (keyed es).Nodup from nd⟩,hr⟩
theorem relO_of {X : Vx} {es : List (Str × SV)} {o : Obj} {kvs : List (Str × Value)} (h : o.IsDictOf (strKind prog X.w) kvs) (r : RelKV k es kvs) : DiR X k es o:=by
  obtain ⟨ds,n,⟨h1,h2,h3⟩,h4,hk,hp,nd⟩:=h
  refine ⟨show (keyed es).Nodup from r.keys ▸ show (keyed kvs).Nodup from nd,ds.toList,n,?_,r.entries hp fun e he=>hk e (Array.mem_toList_iff.mp he)⟩
  obtain ⟨c,d,dt,sl⟩:=o
  cases h1; cases h2; cases h3; cases h4
  rfl
theorem key_isStr {x y : Str} {t : Tok} : (Value.str y t).isStr x = (seq y x):=by
  show (y == x) = seq y x
  by_cases h : y = x
  · subst h; rw [seq_self]; exact beq_self_eq_true _
  · rw [seq_ne h]; exact beq_eq_false_iff_ne.mpr h
theorem RelEs.at' {x : Str} {es : List (Str × SV)} : ∀ {ds : List DictEntry},RelEs w.params k es ds → OptR (RelV k) (lk x es) ((ds.find? (·.key.isStr x)).map (·.val)) ∧ ds.any (·.refKey) = false:=by
  induction es with
  | nil=>exact fun h=>h.el0 ⟨rfl,rfl⟩
  | cons p ps ih =>
    refine fun h=>h.el fun e r h1 h2=>?_
    obtain ⟨⟨t,hk⟩,hh,hv⟩:=h1
    have ks : e.key.isStr x = seq p.1 x:=by rw [hk,key_isStr]
    refine ⟨?_,by rw [List.any_cons,(ih h2).2,Bool.or_false]; unfold DictEntry.refKey; rw [hk]⟩
    show OptR (RelV k) (bI (seq p.1 x) _ (lk x ps)) _
    rw [List.find?_cons,ks]
    cases seq p.1 x with
    | true=>exact ⟨_,rfl,hv⟩
    | false=>exact (ih h2).1
theorem RelEs.get {x : Str} {es : List (Str × SV)} {ds : List DictEntry} {sv : SV} (h : RelEs w.params k es ds) (e : lk x es = some sv) : ∃ v,getL x ds = some (some v) ∧ RelV k sv v:=by
  have:=(RelEs.at' (x:=x) h).1
  rw [e] at this
  obtain ⟨v,h1,h2⟩:=this
  obtain ⟨en,he,rfl⟩:=Option.map_eq_some_iff.mp h1
  exact ⟨_,by unfold getL; rw [he],h2⟩
theorem RelEs.getNone {x : Str} {es : List (Str × SV)} {ds : List DictEntry} (h : RelEs w.params k es ds) (e : lk x es = none) : getL x ds = some none:=by
  have q:=RelEs.at' (x:=x) h
  have:=q.1
  rw [e] at this
  unfold getL
  rw [Option.map_eq_none_iff.mp this,q.2]
  rfl
theorem put_len {α : Type} (x : Str) (v : α) (es : List (Str × α)) : (put x v es).length ≤ es.length + 1:=by
  induction es with
  | nil=>exact Nat.le_refl _
  | cons p r ih =>
    rw [put_cons]
    split
    · exact Nat.le_succ _
    · exact Nat.succ_le_succ ih
theorem RelEs.put {x : Str} {t : Tok} {sv : SV} {v : Value} (hv : RelV k sv v) {es : List (Str × SV)} : ∀ {ds : List DictEntry},RelEs w.params k es ds → RelEs w.params k (put x sv es) (putL x (PyData.keyHash w.params x) (.str x t) v ds):=by
  induction es with
  | nil=>exact fun h=>h.el0 (.one ⟨⟨t,rfl⟩,rfl,hv⟩)
  | cons p ps ih =>
    refine fun h=>h.el fun e r h1 h2=>?_
    obtain ⟨t',hk⟩:=h1.1
    have ks : e.key.isStr x = seq p.1 x:=by rw [hk,key_isStr]
    show RelEs w.params k (bI (seq p.1 x) _ (p :: Mine.put x sv ps)) (putL _ _ _ _ (e :: r))
    unfold putL
    rw [ks]
    cases seq p.1 x with
    | true=>exact .cons ⟨⟨t',hk⟩,h1.2.1,hv⟩ h2
    | false=>exact .cons h1 (ih h2)
theorem put_mem {α : Type} {x y : Str} {v : α} {es : List (Str × α)} (q : y ∈ keyed (put x v es)) : y = x ∨ y ∈ keyed es:=by
  induction es with
  | nil=>exact .inl (List.mem_singleton.mp q)
  | cons a l ih =>
    rw [put_cons] at q
    split at q
    · exact .inr q
    · exact (List.mem_cons.mp q).elim (fun q=>.inr (q ▸ .head _)) fun q=>(ih q).imp id (.tail _)
theorem put_keys {α : Type} {x : Str} {v : α} {es : List (Str × α)} (nd : (keyed es).Nodup) : (keyed (put x v es)).Nodup:=by
  induction es with
  | nil=>exact List.nodup_cons.mpr ⟨List.not_mem_nil,List.nodup_nil⟩
  | cons p r ih =>
    rw [put_cons]
    split
    · exact nd
    · rename_i h
      have nd:=List.nodup_cons.mp nd
      exact List.nodup_cons.mpr ⟨fun q=>(put_mem q).elim h nd.1,ih nd.2⟩
end
noncomputable def AttrOk (K : Frag) (C : Addr) (x : Str) : Prop :=
  plainGet K C x = true ∧ hasDictIn K C = true ∧ (∃ attr,findIn K (.ref C) x = some attr ∧ noGet K attr = true) ∧ findIn K (.ref C) "__setattr__" = some (some (.builtin "object.__setattr__")) ∧ plainOver K C = true ∧ takerIn K C x = some none
theorem relV_handed {k : Kn} (sv : SV) {v : Value} : RelV k sv v → handedIn v = true:=by
  cases sv with
  | d x =>
    cases x with
    | none=>rintro rfl; rfl
    | bool b=>rintro rfl; rfl
    | int i=>rintro ⟨t,rfl⟩; rfl
    | str s=>rintro ⟨t,rfl⟩; rfl
    | tup xs=>rintro ⟨a,vs,rfl,_⟩; rfl
  | ref i=>rintro ⟨a,_,rfl⟩; rfl
  | tup xs=>rintro ⟨a,vs,rfl,_⟩; rfl
  | top a=>rintro rfl; rfl
  | ty n=>rintro rfl; rfl
  | bi b=>rintro rfl; cases b <;> decide +kernel
section
variable {G : Cx} {c : Ct} {W : Wd} {σ : Sto} {E : Value → Shared → Prop} {s : Shared} {h : Heap}
inductive InstR (G : Cx) (W : Wd) (h : Heap) (C d : Nat) (es : List (Str × SV)) (v : Value) : Prop
  | mk (a dx : Addr) (ds : List DictEntry) (n : Nat) (h0 : v = .ref a) (hl : W.led[d]? = some (dx,dictOf ds n)) (nd : (keyed es).Nodup) (re : RelEs G.w.params W.kn es ds) (I : InstAt h a (instObj C dx) C (some (dictOf ds n)))
theorem Fy.inst (Y : Fy G c W σ h) {i C d : Nat} {es : List (Str × SV)} {v : Value} (e1 : σ[i]? = some (.inst C d)) (e2 : σ[d]? = some (.di es)) (r : RelV W.kn (.ref i) v) : InstR G W h C d es v:=by
  refine Y.ref e1 r fun a ob hl ro hg=>?_
  obtain ⟨dx,hd,rfl⟩:=ro
  obtain ⟨⟨dx',ob'⟩,hl',nd,ds,n,ho,re⟩:=Y.S.obj e2
  have hd : (W.led.map (·.1))[d]? = some dx:=hd
  rw [List.getElem?_map,hl'] at hd
  cases hd
  cases ho
  exact ⟨a,dx',ds,n,rfl,hl',nd,re,⟨hg,rfl,rfl,Y.get hl'⟩⟩
noncomputable abbrev AttrsOk (G : Cx) : Prop:=∀ C x,inS x (attrsOf C) = true → AttrOk G.K C x
theorem getA_s (ok : AttrsOk G) {v : SV} {x : Str} {va : Value} {Q : Value → Shared → Prop} {b : Bool} (Y : Fy G c W σ s.heap) (ra : RelV W.kn v va) : Sat (getA v x σ) fun sv=>(∀ w tk,RelV W.kn sv w → Q w { s with toks:=tk }) → wpAny G.M c.A (getAttr va x b) Q E s:=fun sv e =>
  Sat.vRef (P:=fun v sv=>RelV W.kn v va → (∀ w tk,RelV W.kn sv w → Q w { s with toks:=tk }) → wpAny G.M c.A (getAttr va x b) Q E s) (fun i=>.aIn fun C d es e1 e2=>.gd fun hc sv e ra k=>by
    obtain ⟨a,dx,ds,n,rfl,hl,nd,re,I⟩:=Y.inst e1 e2 ra
    obtain ⟨w,hw,rw'⟩:=re.get e
    obtain ⟨h1,h2,⟨attr,h3,h4⟩,-⟩:=ok C x hc
    exact get_own Y.F Y.Z.X I h1 h2 h3 h4 hw (relV_handed _ rw') (k w _ rw')) e ra
theorem setA_s (ok : AttrsOk G) {v y : SV} {x : Str} {va vy : Value} {Q : Unit → Shared → Prop} (Y : Fy G c W σ s.heap) (ra : RelV W.kn v va) (ry : RelV W.kn y vy) : Sat (setA v x y σ) fun σ'=>PostB G c W σ' (Q ()) s → wpAny G.M c.A (setAttr va x vy) Q E s:=fun σ' e =>
  Sat.vRef (P:=fun v σ'=>RelV W.kn v va → PostB G c W σ' (Q ()) s → wpAny G.M c.A (setAttr va x vy) Q E s) (fun i=>.aIn fun C d es e1 e2=>.gd fun hc=>.glen fun hz=>.yes fun ra k=>by
    rw [K.lset_eq] at k
    obtain ⟨a,dx,ds,n,rfl,hl,nd,re,I⟩:=Y.inst e1 e2 ra
    obtain ⟨h1,h2,-,h5,h6,h7⟩:=ok C x hc
    have hg : (getL x ds).isSome = true:=by
      cases q : lk x es with
      | none=>rw [re.getNone q]; rfl
      | some sv=>obtain ⟨w,hw,-⟩:=re.get q; rw [hw]; rfl
    have re':=RelEs.put (x:=x) (t:=s.toks + 1) ry re
    exact set_dict Y.F Y.Z.X Y.N I rfl h5 h6 h7 h2 hg rfl (Y.updL hl (noCT_dict ds n)) (by rw [All2.length re']; exact Nat.le_trans (put_len x y es) (by omega)) fun h' F' N'=>k (Y.turn hl F' N' ⟨put_keys nd,_,_,rfl,re'⟩) (More.set hl)) e ra
end
noncomputable def IdxOk (x : D) (l : List D) (q : Option Nat) : Prop:=@Option.rec Nat (fun _=>Prop) (anyEq (pdD x) (pdDs l) = false) (fun k=>idxP (pdD x) (pdDs l) 0 = some k) q
structure FactsOk (X : Vx) (F : Facts) : Prop where
  eqs : ∀ p ∈ F.eqs,PyData.eqvAll (pdDs (den X.val p.1)) (pdDs (den X.val p.2.1)) = p.2.2
  lens : ∀ p ∈ F.lens,(den X.val p.1).length = p.2
  ats : ∀ p ∈ F.ats,(den X.val p.1)[p.2.1]? = some p.2.2
  idx : ∀ p ∈ F.idx,IdxOk p.2.1 (den X.val p.1) p.2.2
  gets : ∀ p ∈ F.gets,lk p.2.1 (denX X p.1) = p.2.2
theorem FactsOk.nil (X : Vx) (ds : List (Int × Int)) : FactsOk X ⟨[],[],[],[],[],ds⟩:=⟨fun _ h=>absurd h List.not_mem_nil,fun _ h=>absurd h List.not_mem_nil,fun _ h=>absurd h List.not_mem_nil,fun _ h=>absurd h List.not_mem_nil,fun _ h=>absurd h List.not_mem_nil⟩
section
variable {X : Vx} {F : Facts} (ok : FactsOk X F)
include ok
theorem atX_s (l : LX) (k : Nat) : Sat (atX l k F.ats) fun x=>(den X.val l)[k]? = some x:=.om fun p e =>
  have h:=Sat.findB _ e
  sameX_eq _ _ (bA_i h.2).2 ▸ Nat.eq_of_beq_eq_true (bA_i h.2).1 ▸ ok.ats p h.1
theorem getX_s (x : DX) (k : Str) : Sat (getX x k F.gets) fun b=>lk k (denX X x) = b:=.om fun p e =>
  have h:=Sat.findB _ e
  sameDX_eq _ _ (bA_i h.2).2 ▸ seq_eq (bA_i h.2).1 ▸ ok.gets p h.1
theorem idxX_s (l : LX) (x : D) : Sat (idxX l x F.idx) (IdxOk x (den X.val l)):=.om fun p e =>
  have h:=Sat.findB _ e
  sameX_eq _ _ (bA_i h.2).2 ▸ sameD_eq _ _ (bA_i h.2).1 ▸ ok.idx p h.1
theorem lenF_s (l : LX) : Sat (lenF l F.lens) fun n=>(den X.val l).length = n:=.om fun p e =>
  have h:=Sat.findB _ e
  sameX_eq _ _ h.2 ▸ ok.lens p h.1
theorem lenX_s (l : LX) : Sat (lenX F l) fun n=>(den X.val l).length = n:=by
  have f:=lenF_s ok
  induction l with
  | var i=>exact f _
  | lit xs=>exact .oe (f _) (.yes (K.len_eq xs).symm)
  | map t l ih=>exact .oe (f _) (ih.mono fun _ h=>(List.length_map _).trans h)
  | tab t l _=>exact f _
  | itab t l _=>exact f _
  | cat a b ia ib=>exact .oe (f _) (.oS ia fun n h=>.om fun k e=>List.length_append.trans (h ▸ ib e ▸ rfl))
  | rev l ih=>exact .oe (f _) (ih.mono fun _ h=>List.length_reverse.trans h)
  | take n l _=>exact f _
  | drop n l _=>exact f _
  | fn k a b ia _ =>
    refine .oe (f _) (.gle fun hk=>ia.mono fun _ h=>?_)
    cases k with
    | zero=>exact (List.length_map _).trans h
    | succ k =>
      cases Nat.le_zero.mp (Nat.le_of_succ_le_succ hk)
      exact (List.length_map _).trans h
theorem FactsOk.addAt {l : LX} {k : Nat} {x : D} (h : (den X.val l)[k]? = some x) : FactsOk X { F with ats:=(l,k,x) :: F.ats } :=
  ⟨ok.eqs,ok.lens,fun p hp=>(List.mem_cons.mp hp).elim (fun e=>e ▸ h) (ok.ats p),ok.idx,ok.gets⟩
end
theorem atO_s {X : Vx} {F : Facts} (ok : FactsOk X F) {kn : Kn} (o : SO) (k : Nat) : Sat (atO F o k) fun x=>∀ ⦃ob⦄,RelO X kn o ob → LsR ob fun vs=>∃ v,vs[k]? = some v ∧ RelV kn x v :=
  .oL (P:=fun o x=>∀ ⦃ob⦄,RelO X kn o ob → LsR ob fun vs=>∃ v,vs[k]? = some v ∧ RelV kn x v) (fun xs=>.om fun x e ob r=>LsR.mono r fun vs r=>r.get (nth_eq xs k ▸ e)) (fun xs x e ob r=>LsR.mono r fun vs r=>r.get (nth_eq xs k ▸ e))
    fun n al l=>.om fun x e ob r=>LsR.mono r fun vs r=>r.2.2.get (atX_s ok l k e)
theorem seqIndex_nn {k n : Nat} (h1 : k < n) : seqIndex? (k : Int) n = some k:=by
  unfold seqIndex?
  rw [if_neg (Int.not_lt.mpr (Int.natCast_nonneg k))]
  exact if_pos (by simp; omega)
section
variable {G : Cx} {c : Ct} {W : Wd} {σ : Sto} {E : Value → Shared → Prop} {s : Shared} {h : Heap}
noncomputable def ItT (G : Cx) (W : Wd) (s : Shared) (A : Around) (E Q : Value → Shared → Prop) (va vi : Value) (sv : SV) : Prop:=(∀ w tk,RelV W.kn sv w → Q w { s with toks:=tk }) → ItemOn G.M A E va vi Q s
theorem tupItem {a : Addr} {ws : List Value} {n : Nat} (hn : n < 4611686018427387904) {t : Tok} {w : Value} (ht : IsTup s.heap a ws.toArray) (hw : ws[n]? = some w) {A : Around} {Q : Value → Shared → Prop} (k : Q w s) : ItemOn G.M A E (.ref a) (.int (n : Int) t) Q s :=
  ⟨"tuple",_,slot_tuple_getitem.lookup,ht.typeIs,getItem_tuple ht (by omega) (by omega) (seqIndex_nn (by simpa using (List.getElem?_eq_some_iff.mp hw).1)) (by simpa using hw) k⟩
theorem sub_s {F : Facts} (fo : FactsOk G.V F) {v i : SV} {va vi : Value} {A : Around} {Q : Value → Shared → Prop} (Y : Fy G c W σ s.heap) (ra : RelV W.kn v va) (ri : RelV W.kn i vi) : Sat (sub F v i σ) (ItT G W s A E Q va vi):=fun sv e =>
  Sat.vK (P:=fun v sv=>RelV W.kn v va → ItT G W s A E Q va vi sv)
    (fun x=>Sat.vInt (P:=fun i sv=>RelV W.kn i vi → RelV W.kn (.d x) va → ItT G W s A E Q va vi sv) (fun k=>.ix (P:=fun k sv=>RelV W.kn (.d (.int k)) vi → RelV W.kn (.d x) va → ItT G W s A E Q va vi sv) fun n hn=>.dK (P:=fun x sv=>RelV W.kn (.d (.int n)) vi → RelV W.kn (.d x) va → ItT G W s A E Q va vi sv) (fun _=>.no)
      (fun x=>.om fun ch hx ri ra k=>ri.i (P:=fun vi=>ItemOn G.M A E va vi Q s) fun t=>ra.s (P:=fun va=>ItemOn G.M A E va _ Q s) fun u=>by
        rw [nth_eq] at hx
        have hlt:=(List.getElem?_eq_some_iff.mp hx).1
        have hlen : x.length = x.cps.toList.length:=Array.length_toList.symm
        have ec : Txt.item x n = ⟨#[ch]⟩:=by
          unfold Txt.item Txt.charAt
          rw [seqIndex_nn (hlen ▸ hlt)]
          have : x.cps[n]? = some ch:=by simpa using hx
          simp [this]
        refine SB.item (by unfold fitsSsize; simp; omega) (charAt_isSome (by omega) (by omega)) ?_
        rw [ec]
        exact k _ _ relV_str)
      fun xs=>.om fun x hx ri ra k=>ri.i (P:=fun vi=>ItemOn G.M A E va vi Q s) fun t=>relD_at (P:=fun va=>ItemOn G.M A E va _ Q s) Y ra fun a ws ht rd=>let ⟨w,hw,rw'⟩:=rd.get (nth_eq xs n ▸ hx); tupItem hn ht hw (k w s.toks rw')) |>.mono fun sv h ra=>h ri ra)
    (fun r=>Sat.vD (P:=fun i sv=>RelV W.kn i vi → RelV W.kn (.ref r) va → ItT G W s A E Q va vi sv) (fun x=>.dK (P:=fun x sv=>RelV W.kn (.d x) vi → RelV W.kn (.ref r) va → ItT G W s A E Q va vi sv)
      (fun k=>.ix (P:=fun k sv=>RelV W.kn (.d (.int k)) vi → RelV W.kn (.ref r) va → ItT G W s A E Q va vi sv) fun n hn=>.aO fun o e1=>(atO_s (kn:=W.kn) fo o n).mono fun sv ha ri ra k=>ri.i (P:=fun vi=>ItemOn G.M A E va vi Q s) fun t=>Y.ref (P:=fun va=>ItemOn G.M A E va _ Q s) e1 ra fun a ob hl ro hg=>by
        obtain ⟨ws,m,rfl,w,hw,rw'⟩:=ha ro
        have il : s.heap.IsList a ws.toArray:=⟨_,hg,rfl,m,rfl⟩
        exact ⟨"list",_,slot_list_getitem.lookup,il.typeIs,wpAny_getItem_list il (by omega) (by omega) (by simpa using hw) (k w s.toks rw')⟩)
      (fun x=>.aDi fun es e1 sv e ri ra k=>ri.s (P:=fun vi=>ItemOn G.M A E va vi Q s) fun t=>Y.ref (P:=fun va=>ItemOn G.M A E va _ Q s) e1 ra fun a ob hl ro hg=>by
        obtain ⟨nd,kvs,hd,rk⟩:=relO_di (prog:=pw) ro
        obtain ⟨w,hw,rw'⟩:=rk.some e
        have dd : s.heap.DictOf (strKind pw G.w) a kvs:=Heap.dictOf_iff.mpr ⟨_,hg,hd⟩
        exact ⟨"dict",_,slot_dict_getitem.lookup,dd.typeIs,wpAny_getItem_of (strKind_is pw G.w x t) dd.mapOf hw (k w _ rw')⟩) fun _=>.no) |>.mono fun sv h ra=>h ri ra)
    (fun xs=>Sat.vInt (P:=fun i sv=>RelV W.kn i vi → RelV W.kn (.tup xs) va → ItT G W s A E Q va vi sv) (fun k=>.ix (P:=fun k sv=>RelV W.kn (.d (.int k)) vi → RelV W.kn (.tup xs) va → ItT G W s A E Q va vi sv) fun n hn x hx ri ra k=>ri.i (P:=fun vi=>ItemOn G.M A E va vi Q s) fun t=>relV_at (P:=fun va=>ItemOn G.M A E va _ Q s) Y ra fun a ws ht rd =>
      let ⟨w,hw,rw'⟩:=rd.get (nth_eq xs n ▸ hx); tupItem hn ht hw (k w s.toks rw')) |>.mono fun sv h ra=>h ri ra) e ra
end
theorem txt_cut (x : Str) (lo hi : Option Int) : Sat (cut lo hi x.cps.toList) fun ys=>Txt.slice x lo hi = ⟨ys.toArray⟩ ∧ x.length ≤ 1000:=by
  refine .ite fun q=>.yes ?_
  rw [K.len_eq] at q
  have hx : x.cps.toList.length = x.length:=Array.length_toList
  obtain ⟨h1,h2,h3,h4⟩:=q
  refine ⟨?_,hx ▸ h4⟩
  have key:=StrLaws.sliceText_plain (x:=x) (i:=lo.getD 0) (j:=hi.getD x.cps.toList.length) ⟨h1,h2,h3⟩
  have e : Txt.slice x lo hi = Txt.slice x (some (lo.getD 0)) (some (hi.getD x.cps.toList.length)):=by
    cases lo <;> cases hi
    · unfold Txt.slice; rw [StrLaws.sliceIdx_none_hi,StrLaws.sliceIdx_none_lo,← hx]; rfl
    · unfold Txt.slice; rw [StrLaws.sliceIdx_none_lo]; rfl
    · unfold Txt.slice; rw [StrLaws.sliceIdx_none_hi,← hx]; rfl
    · rfl
  rw [e,K.len_eq]
  exact key
theorem All2.pick {α β : Type} {R : α → β → Prop} {x : List α} {y : List β} (h : All2 R x y) (lo hi : Option Int) : All2 R (pickL lo hi x) (pickL lo hi y):=by
  unfold pickL
  rw [K.len_eq,K.len_eq,h.length]
  exact All2.take _ (All2.drop _ h)
theorem pick_is (ws : List Value) (lo hi : Option Int) : slicePick ws.toArray lo hi none = (pickL lo hi ws).toArray:=by
  rw [kms_pick_eq]
  unfold kms_pick pickL
  rw [K.len_eq]
theorem drop_min {α : Type} (ws : List α) (a : Nat) : (ws.drop (min a ws.length)).take (ws.length - min a ws.length) = ws.drop a:=by
  rw [List.take_of_length_le (Nat.le_of_eq (List.length_drop ..))]
  by_cases h : a ≤ ws.length
  · rw [Nat.min_eq_left h]
  · have h:=Nat.le_of_lt (Nat.lt_of_not_le h)
    rw [Nat.min_eq_right h,List.drop_eq_nil_of_le (Nat.le_refl _),List.drop_eq_nil_of_le h]
theorem take_min {α : Type} (ws : List α) (a : Nat) : (ws.drop 0).take (min a ws.length - 0) = ws.take a:=by
  rw [List.drop_zero,Nat.sub_zero]
  by_cases h : a ≤ ws.length
  · rw [Nat.min_eq_left h]
  · have h:=Nat.le_of_lt (Nat.lt_of_not_le h)
    rw [Nat.min_eq_right h,List.take_of_length_le (Nat.le_refl _),List.take_of_length_le h]
noncomputable def PartR (X : Vx) (k : Kn) (o' : SO) (ob : Obj) (f : List Value → List Value) : Prop:=LsR ob fun ws=>ws.length ≤ 1000 ∧ ∀ j,RelO X k o' (listOf (f ws).toArray j)
theorem cutO_s {X : Vx} {k : Kn} (lo hi : Option Int) (o : SO) : Sat (cutO lo hi o) fun o'=>∀ ⦃ob⦄,RelO X k o ob → PartR X k o' ob (pickL lo hi):=by
  refine .oL (P:=fun o o'=>∀ ⦃ob⦄,RelO X k o ob → PartR X k o' ob (pickL lo hi)) (fun xs=>.glen fun hz=>.yes fun ob r=>LsR.mono r fun ws r=>⟨by rw [All2.length r]; exact hz,fun j=>⟨_,j,rfl,r.pick lo hi⟩⟩) (fun xs=>.glen fun hz=>.yes fun ob r=>LsR.mono r fun ws r=>⟨by rw [All2.length r]; exact hz,fun j=>⟨_,j,rfl,r.pick lo hi⟩⟩) fun n al l=>?_
  have dr : ∀ (a : Int) (ws : List Value),0 ≤ a → pickL (some a) none ws = ws.drop a.toNat:=fun a ws h=>by
    unfold pickL kms_lo kms_hi
    dsimp only
    rw [if_neg (Int.not_lt.mpr h),K.len_eq]
    exact drop_min ws a.toNat
  have tk : ∀ (a : Int) (ws : List Value),0 ≤ a → pickL none (some a) ws = ws.take a.toNat:=fun a ws h=>by
    unfold pickL kms_lo kms_hi
    dsimp only
    rw [if_neg (Int.not_lt.mpr h),K.len_eq]
    exact take_min ws a.toNat
  cases lo with
  | none =>
    refine .oo fun b e=>?_
    cases e
    exact .ite fun q=>.yes fun ob r=>LsR.mono r fun ws r=>⟨by rw [All2.length r.2.2]; exact Nat.le_trans r.2.1 q.2.2,fun j=>⟨_,j,rfl,fun x hx=>r.1 x (List.mem_of_mem_take hx),Nat.le_trans (List.length_take_le' ..) r.2.1,by rw [tk _ _ q.1]; exact All2.take _ r.2.2⟩⟩
  | some a =>
    cases hi with
    | some b=>exact .no
    | none=>exact .ite fun q=>.yes fun ob r=>LsR.mono r fun ws r=>⟨by rw [All2.length r.2.2]; exact Nat.le_trans r.2.1 q.2.2,fun j=>⟨_,j,rfl,fun x hx=>r.1 x (List.mem_of_mem_drop hx),by show (List.drop _ _).length ≤ _; rw [List.length_drop]; exact Nat.le_trans (Nat.sub_le ..) r.2.1,by rw [dr _ _ q.1]; exact All2.drop _ r.2.2⟩⟩
theorem revO_s {X : Vx} {k : Kn} (o : SO) : Sat (revO o) fun o'=>∀ ⦃ob⦄,RelO X k o ob → PartR X k o' ob List.reverse :=
  .oL (P:=fun o o'=>∀ ⦃ob⦄,RelO X k o ob → PartR X k o' ob List.reverse) (fun xs=>.glen fun hz=>.yes fun ob r=>LsR.mono r fun ws r=>⟨by rw [All2.length r]; exact hz,fun j=>⟨_,j,rfl,r.rev⟩⟩) (fun xs=>.glen fun hz=>.yes fun ob r=>LsR.mono r fun ws r=>⟨by rw [All2.length r]; exact hz,fun j=>⟨_,j,rfl,r.rev⟩⟩)
    fun n al l=>.gle fun hz=>.yes fun ob r=>LsR.mono r fun ws r=>⟨by rw [All2.length r.2.2]; exact Nat.le_trans r.2.1 hz,fun j=>⟨_,j,rfl,fun x hx=>r.1 x (List.mem_reverse.mp hx),by show (List.reverse _).length ≤ _; rw [List.length_reverse]; exact r.2.1,All2.rev r.2.2⟩⟩
section
variable {G : Cx} {c : Ct} {W : Wd} {σ : Sto} {E : Value → Shared → Prop} {s : Shared}
noncomputable abbrev sliceO (l u st : Value) : Obj:={ cls:=.type "slice",data:=.fields #[l,u,st] }
theorem Fy.sliced (Y : Fy G c W σ s.heap) {i : Nat} {o o' : SO} {va vl vu vk : Value} {lo hi st : Option Int} {f : List Value → List Value} {Q : Value → Shared → Prop} (e1 : σ[i]? = some o) (ra : RelV W.kn (.ref i) va) (pl : IsPart vl lo) (pu : IsPart vu hi) (pk : IsPart vk st) (h0 : st ≠ some 0)
    (he : ∀ ws : List Value,slicePick ws.toArray lo hi st = (f ws).toArray) (r : ∀ ⦃ob⦄,RelO G.V W.kn o ob → PartR G.V W.kn o' ob f) (k : Post G c W (.ref σ.length) (σ ++ [o']) Q s) : ItemOn G.M c.A E va (.ref s.heap.objs.size) Q { s with heap:=s.heap.push (sliceO vl vu vk) }:=by
  refine Y.ref (P:=fun va=>ItemOn G.M c.A E va (.ref s.heap.objs.size) Q { s with heap:=s.heap.push (sliceO vl vu vk) }) e1 ra fun a ob hl ro hg=>?_
  obtain ⟨ws,n,rfl,hz,rr⟩:=r ro
  have il' : (s.heap.push (sliceO vl vu vk)).IsList a ws.toArray:=Heap.IsList.push ⟨_,hg,rfl,n,rfl⟩ _
  refine ⟨"list",_,slot_list_getitem.lookup,Heap.IsList.typeIs (s:={ s with heap:=s.heap.push (sliceO vl vu vk) }) il',wpAny_getItem_list_slice il' (Heap.IsSliceOf.new ..) pl pu pk h0 ?_ (by rw [List.size_toArray]; exact Nat.le_trans hz (by decide))⟩
  rw [he]
  exact Post.push (s:={ s with heap:=s.heap.push (sliceO vl vu vk) }) (fun _ _ _ _ Y r m=>k Y r m) (Y.grow _) (rr 0)
theorem keptFy : KeptH (fun h=>Fy G c W σ h):=fun _ ob Y=>Y.grow ob
noncomputable def SlT (G : Cx) (v : SV) (lo hi st : Option Int) (σ : Sto) (sv : SV) (σ' : Sto) : Prop :=
  ∀ ⦃c : Ct⦄ ⦃W : Wd⦄ ⦃E Q : Value → Shared → Prop⦄ ⦃s : Shared⦄ ⦃va vl vu vk : Value⦄,Fy G c W σ s.heap → RelV W.kn v va → IsPart vl lo → IsPart vu hi → IsPart vk st → Post G c W sv σ' Q s → ItemOn G.M c.A E va (.ref s.heap.objs.size) Q { s with heap:=s.heap.push (sliceO vl vu vk) }
theorem slice_s (v : SV) (lo hi : Option Int) : Sat (slice v lo hi σ) (U2 (SlT G v lo hi none σ)):=by
  refine .vK (P:=fun v=>U2 (SlT G v lo hi none σ)) (fun x=>.dK (P:=fun x=>U2 (SlT G (.d x) lo hi none σ)) (fun _=>.no) (fun x=>.om fun ys hc c W E Q s va vl vu vk Y ra pl pu pk k=>?_) fun _=>.no) (fun r=>.aO fun o e1=>.oo fun o' ho=>.nw fun c W E Q s va vl vu vk Y ra pl pu pk k=>Y.sliced e1 ra pl pu pk (by decide) (fun ws=>pick_is ws lo hi) (cutO_s lo hi o ho) k) fun _=>.no
  obtain ⟨ec,hz⟩:=txt_cut x lo hi hc
  have hz' : x.length ≤ sizeLine:=Nat.le_trans hz (by decide)
  obtain ⟨t,rfl⟩:=ra
  have fin : ∀ h' t' kk,Fy G c W σ h' → Q (.str (Txt.slice x lo hi) t') { s with heap:=h',toks:=kk }:=fun h' t' kk Y'=>ec ▸ k Y' relV_str (Kn.Le.refl _)
  cases pk
  cases pl <;> cases pu
  · exact SBH.sliceItem_nn keptFy Y fin hz'
  · exact SBH.sliceItem_ns keptFy Y fin hz'
  · exact SBH.sliceItem_sn keptFy Y fin hz'
  · exact SBH.sliceItem_ss keptFy Y fin hz'
theorem sliceR_s (v : SV) : Sat (sliceR v σ) (U2 (SlT G v none none (some (-1)) σ)) :=
  .vRef (P:=fun v=>U2 (SlT G v none none (some (-1)) σ)) fun r=>.aO fun o e1=>.oo fun o' ho=>.nw fun c W E Q s va vl vu vk Y ra pl pu pk k=>Y.sliced e1 ra pl pu pk (by decide) (fun ws=>by rw [krv_pick]) (revO_s o ho) k
end
theorem pd_tup (xs : List D) : pdD (.tup xs) = .tuple (pdDs xs):=by
  refine congrArg PyData.tuple ?_
  induction xs with
  | nil=>rfl
  | cons x xs ih=>exact congrArg (pdD x :: ·) ih
theorem pdDs_length (xs : List D) : (pdDs xs).length = xs.length:=(congrArg List.length (K.lmap_eq pdD xs)).trans (List.length_map _)
noncomputable def Lay (n : Nat) (p : PyData) : Prop:=p.canLay0 = true ∧ p.depth ≤ n
noncomputable def Lays (n : Nat) (ps : List PyData) : Prop:=PyData.canLayAll0 ps = true ∧ PyData.depthAll ps ≤ n
theorem Lays.nil {n : Nat} : Lays n []:=⟨rfl,Nat.zero_le _⟩
theorem Lays.cons {n : Nat} {p : PyData} {ps : List PyData} (h : Lay n p) (k : Lays n ps) : Lays n (p :: ps):=⟨Bool.and_eq_true_iff.mpr ⟨h.1,k.1⟩,Nat.max_le.mpr ⟨h.2,k.2⟩⟩
theorem Lays.list {n : Nat} {ps : List PyData} (h : Lays n ps) : Lay (n + 1) (.list ps):=⟨h.1,Nat.succ_le_succ h.2⟩
theorem Lays.tuple {n : Nat} {ps : List PyData} (h : Lays n ps) : Lay (n + 1) (.tuple ps):=⟨h.1,Nat.succ_le_succ h.2⟩
theorem Lay.le {n k : Nat} {p : PyData} (h : Lay n p) (hk : n ≤ k) : Lay k p:=⟨h.1,Nat.le_trans h.2 hk⟩
theorem okL_strOk {s : Str} (h : okL s.cps.toList = true) : PyData.strOk s = true:=by
  have all : ∀ l : List Nat,okL l = true → ∀ c ∈ l,c < 0x110000:=by
    intro l
    induction l with
    | nil=>exact fun _ _ h=>absurd h List.not_mem_nil
    | cons a r ih=>exact fun h c hc=>(List.mem_cons.mp hc).elim (fun e=>e ▸ Nat.blt_eq.mp (bA_i h).1) (ih (bA_i h).2 c)
  unfold PyData.strOk
  rw [Array.all_eq_true']
  exact fun c hc=>decide_eq_true (all _ h c (Array.mem_toList_iff.mpr hc))
theorem okAll_i {f : D → Bool} {x : D} {l : List D} (h : okAll f (x :: l) = true) : f x = true ∧ okAll f l = true:=bA_i h
theorem okAll_mem {f : D → Bool} {l : List D} (h : okAll f l = true) : ∀ x ∈ l,f x = true:=by
  induction l with
  | nil=>exact fun _ h=>absurd h List.not_mem_nil
  | cons a r ih=>exact fun x hx=>(List.mem_cons.mp hx).elim (fun e=>e ▸ (bA_i h).1) (ih (bA_i h).2 x)
theorem okAll_of {f : D → Bool} {l : List D} (h : ∀ x ∈ l,f x = true) : okAll f l = true:=by
  induction l with
  | nil=>rfl
  | cons a r ih=>exact (congrArg (bA · _) (h a (.head _))).trans (ih fun x hx=>h x (.tail _ hx))
theorem lays_of {f : D → Bool} {n : Nat} (hf : ∀ x,f x = true → Lay n (pdD x)) {xs : List D} (h : okAll f xs = true) : Lays n (pdDs xs):=by
  induction xs with
  | nil=>exact .nil
  | cons x xs ih=>exact .cons (hf x (okAll_i h).1) (ih (okAll_i h).2)
theorem okD_lay (n : Nat) : ∀ x : D,okD n x = true → Lay n (pdD x):=by
  induction n with
  | zero =>
    intro x h
    cases x with
    | str s=>exact ⟨okL_strOk h,Nat.le_refl _⟩
    | tup xs=>exact nT h
    | _=>exact ⟨rfl,Nat.le_refl _⟩
  | succ n ih =>
    intro x h
    cases x with
    | str s=>exact ⟨okL_strOk h,Nat.zero_le _⟩
    | tup xs=>rw [pd_tup]; exact (lays_of ih h).tuple
    | _=>exact ⟨rfl,Nat.zero_le _⟩
theorem okDs_lay {xs : List D} (h : okAll (okD 8) xs = true) : Lays 8 (pdDs xs):=lays_of (okD_lay 8) h
theorem seq_beq (a b : Str) : seq a b = (a == b):=by
  by_cases h : a = b
  · subst h; rw [seq_self,beq_self_eq_true]
  · rw [seq_ne h,beq_eq_false_iff_ne.mpr h]
theorem eqP_eq (a : PyData) : ∀ b,eqP a b = PyData.eqv a b:=by
  refine @PyData.rec (fun a=>∀ b,eqP a b = PyData.eqv a b) (fun x=>∀ y,eqP (.list x) (.list y) = PyData.eqvAll x y) (fun _=>True) (fun _=>True) ?_ ?_ ?_ ?_ ?_ ?_ ?_ ?_ ?_ trivial (fun _ _ _ _=>trivial) (fun _ _ _ _=>trivial) a
  · exact fun b=>by cases b <;> rfl
  · exact fun a b=>by cases b <;> rfl
  · exact fun a b=>by cases b <;> rfl
  · exact fun a b=>by cases b <;> first | rfl | exact seq_beq _ _
  · exact fun x ih b=>by cases b <;> first | rfl | exact ih _
  · exact fun x ih b=>by cases b <;> first | rfl | exact ih _
  · exact fun x _ b=>by cases b <;> rfl
  · exact fun y=>by cases y <;> rfl
  · exact fun a x ia ix y=>by
      cases y with
      | nil=>rfl
      | cons b y =>
        show bA (eqP a b) (eqP (.list x) (.list y)) = (PyData.eqv a b && PyData.eqvAll x y)
        rw [ia b,ix y]
        cases PyData.eqv a b <;> rfl
theorem anyEq_any {x : PyData} (l : List PyData) : (l.any fun y=>PyData.eqv y x) = anyEq x l:=by
  induction l with
  | nil=>rfl
  | cons y r ih =>
    rw [List.any_cons,ih,← eqP_eq]
    show _ = bI (eqP y x) true (anyEq x r)
    cases eqP y x <;> rfl
theorem eqv_selfD (x : D) : PyData.eqv (pdD x) (pdD x) = true:=by
  refine @D.rec (fun x=>PyData.eqv (pdD x) (pdD x) = true) (fun xs=>PyData.eqvAll (pdDs xs) (pdDs xs) = true) rfl (fun b=>beq_self_eq_true b) (fun i=>beq_self_eq_true i) (fun s=>beq_self_eq_true s) (fun xs h=>?_) rfl (fun x xs h1 h2=>?_) x
  · rw [pd_tup]; exact h
  · exact Bool.and_eq_true_iff.mpr ⟨h1,h2⟩
theorem eqv_selfDs (xs : List D) : PyData.eqvAll (pdDs xs) (pdDs xs) = true:=by
  have h:=eqv_selfD (.tup xs)
  rw [pd_tup] at h
  exact h
inductive RdR (h : Heap) (w : Value) (p : PyData) (k : Nat) : Prop | mk (as : List Addr) (r : Reads h w p as) (l : Lay k p)
inductive RdsR (h : Heap) (ws : List Value) (ps : List PyData) (k : Nat) : Prop | mk (as : List Addr) (r : ReadsAll h ws ps as) (l : Lays k ps)
section
variable {h : Heap} {w : Value} {p : PyData} {ws : List Value} {ps : List PyData} {k n : Nat}
theorem RdR.le (x : RdR h w p k) (hk : k ≤ n) : RdR h w p n:=let ⟨as,r,l⟩:=x; ⟨as,r,l.le hk⟩
theorem RdsR.nil : RdsR h [] [] k:=⟨_,ReadsAll.nil,.nil⟩
theorem RdsR.cons (x : RdR h w p k) (y : RdsR h ws ps k) : RdsR h (w :: ws) (p :: ps) k:=let ⟨_,r,l⟩:=x; let ⟨_,r',l'⟩:=y; ⟨_,ReadsAll.cons r r',.cons l l'⟩
theorem RdsR.list {a : Addr} (hg : h.get? a = some (listOf ws.toArray n)) (x : RdsR h ws ps k) : RdR h (.ref a) (.list ps) (k + 1):=let ⟨_,r,l⟩:=x; ⟨_,reads_list_at hg rfl rfl r,l.list⟩
end
section
variable {G : Cx} {c : Ct} {W : Wd} {σ : Sto} {E : Value → Shared → Prop} {s : Shared} {h : Heap}
theorem Fy.readsD (Y : Fy G c W σ h) (x : D) : ∀ {v : Value},RelD W.tps x v → ∃ as,Reads h v (pdD x) as:=by
  refine @D.rec (fun x=>∀ {v : Value},RelD W.tps x v → ∃ as,Reads h v (pdD x) as) (fun xs=>∀ {vs : List Value},RelDs W.tps xs vs → ∃ as,ReadsAll h vs (pdDs xs) as) ?_ ?_ ?_ ?_ ?_ ?_ ?_ x
  · rintro v rfl; exact ⟨_,Reads.none⟩
  · rintro b v rfl; exact ⟨_,Reads.bool b⟩
  · rintro i v ⟨t,rfl⟩; exact ⟨_,Reads.int i t⟩
  · rintro s v ⟨t,rfl⟩; exact ⟨_,Reads.str s t⟩
  · exact fun xs ih v r=>relD_el r fun a vs m r=>(ih r).imp fun as q=>by rw [pd_tup]; exact reads_tuple_at (Y.getT m) rfl rfl q
  · exact fun r=>r.el0 ⟨_,ReadsAll.nil⟩
  · exact fun x xs h1 h2 vs r=>r.el fun v r a b=>let ⟨as,q⟩:=h1 a; let ⟨bs,p⟩:=h2 b; ⟨_,ReadsAll.cons q p⟩
theorem Fy.readsDs (Y : Fy G c W σ h) {xs : List D} {vs : List Value} (r : RelDs W.tps xs vs) : ∃ as,ReadsAll h vs (pdDs xs) as:=by
  induction xs generalizing vs with
  | nil=>exact r.el0 ⟨_,ReadsAll.nil⟩
  | cons x xs ih=>exact r.el fun v r a b=>let ⟨as,q⟩:=Y.readsD x a; let ⟨bs,p⟩:=ih b; ⟨_,ReadsAll.cons q p⟩
theorem pdX_s (Y : Fy G c W σ h) (x : D) : Sat (pdX x) fun p=>∀ ⦃w⦄,RelV W.kn (.d x) w → RdR h w p 9:=.gd fun q=>.yes fun w r=>let ⟨as,ra⟩:=Y.readsD x r; ⟨as,ra,(okD_lay 8 x q).le (Nat.le_succ _)⟩
theorem Fy.readsL (Y : Fy G c W σ h) {xs : List D} {ws : List Value} {a : Addr} {n : Nat} (q : okAll (okD 8) xs = true) (hg : h.get? a = some (listOf ws.toArray n)) (r : RelDs W.tps xs ws) : RdR h (.ref a) (.list (pdDs xs)) 9:=let ⟨as,ra⟩:=Y.readsDs r; RdsR.list hg ⟨as,ra,okDs_lay q⟩
theorem pdAll_s {f : SV → Option PyData} {k : Nat} (ih : ∀ v,Sat (f v) fun p=>∀ ⦃w⦄,RelV W.kn v w → RdR h w p k) (vs : List SV) : Sat (pdAll f vs) fun ps=>∀ ⦃ws⦄,RelVs W.kn vs ws → RdsR h ws ps k:=by
  induction vs with
  | nil=>exact .yes fun ws r=>r.el0 .nil
  | cons v vs hi=>exact .oS (ih v) fun p hp=>.om fun ps e ws r=>r.el fun w r h1 h2=>.cons (hp h1) (hi e h2)
theorem pdV_s (Y : Fy G c W σ h) (k : Nat) : ∀ v,Sat (pdV σ k v) fun p=>∀ ⦃w⦄,RelV W.kn v w → RdR h w p (k + 9):=by
  induction k with
  | zero=>exact fun v=>.vD (P:=fun v p=>∀ ⦃w⦄,RelV W.kn v w → RdR h w p 9) fun x=>pdX_s Y x
  | succ k ih =>
    refine fun v=>.vK (P:=fun v p=>∀ ⦃w⦄,RelV W.kn v w → RdR h w p (k + 1 + 9)) (fun x=>(pdX_s Y x).mono fun p h w r=>(h r).le (Nat.le_add_left ..)) (fun i=>.aL (fun xs e1=>.gd fun q=>.yes fun w r=>Y.ref e1 r fun a ob hl ro hg=>?_) (fun xs e1=>.om fun ps e w r=>Y.ref e1 r fun a ob hl ro hg=>?_) fun _ _ _ _=>.no) fun _=>.no
    · obtain ⟨ws,n,rfl,rd⟩:=ro
      exact (Y.readsL q hg rd).le (Nat.le_add_left ..)
    · obtain ⟨ws,n,rfl,rd⟩:=ro
      exact (pdAll_s ih xs e rd).list hg |>.le (Nat.le_of_eq (Nat.succ_add k 9).symm)
theorem room_units {n : Nat} {A : Around} (h : Room n A) : A.units + 200 < cLine:=Nat.lt_of_le_of_lt (Nat.add_le_add_right (Nat.le_trans (Nat.le_add_right ..) h.2.2) _) (by decide)
theorem units_min {A : Around} {d e k : Nat} (hd : d ≤ 99) (h : A.units + 200 < cLine) (hk : k ≤ 1) : A.units + k + min d e < cLine:=Nat.lt_of_le_of_lt (Nat.le_trans (Nat.add_le_add_left (Nat.le_trans (Nat.min_le_left ..) hd) _) (by omega)) h
theorem truth_s (v : SV) : Sat (truth v) fun b=>∀ ⦃va k A⦄ ⦃Q : Bool → Shared → Prop⦄,RelV k v va → (∀ tk,Q b { s with toks:=tk }) → wpAny G.M A (truthy va) Q E s:=by
  refine .vD (P:=fun v b=>∀ ⦃va k A⦄ ⦃Q : Bool → Shared → Prop⦄,RelV k v va → (∀ tk,Q b { s with toks:=tk }) → wpAny G.M A (truthy va) Q E s) fun x=>?_
  cases x with
  | none=>exact .yes fun va k A Q r q=>(show va = .none from r) ▸ truthy_none (q s.toks)
  | bool b=>exact .yes fun va k A Q r q=>(show va = .bool b from r) ▸ wpAny_truthy_bool (q s.toks)
  | _=>exact .no
noncomputable def MemT (G : Cx) (A : Around) (E : Value → Shared → Prop) (s : Shared) (va vb : Value) (c : Bool) : Prop :=
  (∀ ⦃Q : Value → Shared → Prop⦄,(∀ tk,Q (.bool c) { s with toks:=tk }) → wpAny G.M A (compareOp .In va vb) Q E s) ∧ (∀ ⦃Q : Value → Shared → Prop⦄,(∀ tk,Q (.bool (!c)) { s with toks:=tk }) → wpAny G.M A (compareOp .NotIn va vb) Q E s)
theorem mem_reads {n : Nat} {A : Around} (hA : Room n A) {va vb : Value} {x p : PyData} {xs : List PyData} {j j' : Nat} (hp : p = .list xs ∨ p = .tuple xs) (r : RdR s.heap va x j) (r' : RdR s.heap vb p j') (hj : j' ≤ 20) : MemT G A E s va vb (anyEq x xs):=by
  obtain ⟨as,rx,lx⟩:=r
  obtain ⟨bs,rl,lp⟩:=r'
  have e:=anyEq_any (x:=x) xs
  rcases hp with rfl | rfl
  · have hd:=units_min (e:=x.depth) (k:=1) (Nat.le_trans (Nat.le_of_succ_le lp.2) (Nat.le_trans hj (by decide))) (room_units hA) (Nat.le_refl _)
    exact ⟨fun Q k=>SeqAt.in_list_reads rl rx lp.1 lx.1 hd (e.symm ▸ k s.toks),fun Q k=>SeqAt.notIn_list_reads rl rx lp.1 lx.1 hd (e.symm ▸ k s.toks)⟩
  · have hd:=units_min (e:=x.depth) (k:=1) (Nat.le_trans (Nat.le_of_succ_le lp.2) (Nat.le_trans hj (by decide))) (room_units hA) (Nat.le_refl _)
    exact ⟨fun Q k=>SeqAt.in_tuple_reads rl rx lp.1 lx.1 hd (e.symm ▸ k s.toks),fun Q k=>SeqAt.notIn_tuple_reads rl rx lp.1 lx.1 hd (e.symm ▸ k s.toks)⟩
theorem memP_s {n : Nat} {A : Around} (hA : Room n A) {a b : SV} {va vb : Value} (Y : Fy G c W σ s.heap) (ra : RelV W.kn a va) (rb : RelV W.kn b vb) : Sat (memP σ a b) (MemT G A E s va vb):=by
  refine .oS (pdV_s Y 4 a) fun x hx=>.oS (pdV_s Y 4 b) fun p hp=>?_
  cases p with
  | list xs=>exact .yes (mem_reads hA (.inl rfl) (hx ra) (hp rb) (by decide))
  | tuple xs=>exact .yes (mem_reads hA (.inr rfl) (hx ra) (hp rb) (by decide))
  | _=>exact .no
theorem idxP_any {x : PyData} (ps : List PyData) : ∀ {k₀ k : Nat},idxP x ps k₀ = some k → anyEq x ps = true:=by
  induction ps with
  | nil=>exact fun h=>nS h
  | cons y r ih =>
    intro k₀ k (h : bI (eqP y x) _ (idxP x r (k₀ + 1)) = some k)
    show bI (eqP y x) true (anyEq x r) = true
    cases q : eqP y x with
    | true=>rfl
    | false=>rw [q] at h; exact ih h
theorem Fy.readsSy (Y : Fy G c W σ h) {i n : Nat} {al : List D} {l : LX} {w : Value} (e1 : σ[i]? = some (.sy n al l)) (q : okAll (okD 8) al = true) (r : RelV W.kn (.ref i) w) : RdR h w (.list (pdDs (den G.V.val l))) 9 ∧ (den G.V.val l).length ≤ n :=
  Y.ref e1 r fun a ob hl ro hg=>by
    obtain ⟨ws,n,rfl,ha,hn,rd⟩:=ro
    exact ⟨Y.readsL (okAll_of fun x hx=>okAll_mem q x (ha x hx)) hg rd,hn⟩
theorem memS_s {n : Nat} {A : Around} (hA : Room n A) {F : Facts} (fo : FactsOk G.V F) {a : SV} {j n₀ : Nat} {al : List D} {l : LX} {va vb : Value} (e1 : σ[j]? = some (.sy n₀ al l)) (Y : Fy G c W σ s.heap) (ra : RelV W.kn a va) (rb : RelV W.kn (.ref j) vb) : Sat (memS F a al l) (MemT G A E s va vb):=fun z e =>
  Sat.vD (P:=fun a z=>RelV W.kn a va → MemT G A E s va vb z) (fun x=>.gd fun q=>.gd fun q'=>.om fun k hk ra=>by
    have hi:=idxX_s fo l x hk
    have e : anyEq (pdD x) (pdDs (den G.V.val l)) = k.isSome:=by
      cases k with
      | none=>exact hi
      | some k=>exact idxP_any _ hi
    obtain ⟨as,rx⟩:=Y.readsD x ra
    exact e ▸ mem_reads hA (.inl rfl) ⟨as,rx,okD_lay 8 x q'⟩ (Y.readsSy e1 q rb).1 (by decide)) e ra
theorem memDi_s {A : Around} {a : SV} {j : Nat} {es : List (Str × SV)} {va vb : Value} (e1 : σ[j]? = some (.di es)) (Y : Fy G c W σ s.heap) (ra : RelV W.kn a va) (rb : RelV W.kn (.ref j) vb) : Sat (vStr a fun x=>some (lk x es).isSome) (MemT G A E s va vb):=fun z e =>
  Sat.vStr (P:=fun a z=>RelV W.kn a va → MemT G A E s va vb z) (fun x=>.yes fun ra=>ra.s (P:=fun va=>MemT G A E s va vb _) fun t=>Y.ref (P:=fun vb=>MemT G A E s _ vb _) e1 rb fun o ob hl ro hg=>by
    obtain ⟨nd,kvs,hd,rk⟩:=relO_di (prog:=pw) ro
    have dd : s.heap.DictOf (strKind pw G.w) o kvs:=Heap.dictOf_iff.mpr ⟨_,hg,hd⟩
    have hb : (valueAt kvs x).isSome = (lk x es).isSome:=by
      cases q : lk x es with
      | none=>rw [rk.none q]; rfl
      | some sv=>obtain ⟨w,hw,-⟩:=rk.some q; rw [hw]; rfl
    exact ⟨fun Q k=>wpAny_in_of (strKind_is pw G.w x t) (Y.loAt hl) dd.mapOf (hb.symm ▸ k _),fun Q k=>wpAny_notIn_of (strKind_is pw G.w x t) (Y.loAt hl) dd.mapOf (hb.symm ▸ k _)⟩) e ra
theorem memV_s {n : Nat} {A : Around} (hA : Room n A) {F : Facts} (fo : FactsOk G.V F) {a b : SV} {va vb : Value} (Y : Fy G c W σ s.heap) (ra : RelV W.kn a va) (rb : RelV W.kn b vb) : Sat (memV F σ a b) (MemT G A E s va vb):=by
  have P:=memP_s (E:=E) hA Y ra rb
  cases b with
  | ref j =>
    refine .aO fun o e1=>?_
    cases o with
    | di es=>exact memDi_s e1 Y ra rb
    | sy n₀ al l=>exact memS_s hA fo e1 Y ra rb
    | dl _=>exact P
    | ls _=>exact P
    | _=>exact .no
  | d _=>exact P
  | _=>exact .no
inductive EqR (h : Heap) (va vb : Value) (k : Nat) (c : Bool) : Prop | mk (x y : PyData) (r : RdR h va x k) (r' : RdR h vb y k) (e : PyData.eqv x y = c)
theorem EqR.le {va vb : Value} {k n : Nat} {b : Bool} (x : EqR h va vb k b) (hk : k ≤ n) : EqR h va vb n b:=let ⟨x,y,r,r',e⟩:=x; ⟨x,y,r.le hk,r'.le hk,e⟩
theorem eqX_s {F : Facts} (fo : FactsOk G.V F) (l m : LX) : Sat (eqX l m F.eqs) fun c=>PyData.eqv (.list (pdDs (den G.V.val l))) (.list (pdDs (den G.V.val m))) = c :=
  .oe (.om fun p e=>have h:=Sat.findB _ e; sameX_eq _ _ (bA_i h.2).1 ▸ sameX_eq _ _ (bA_i h.2).2 ▸ fo.eqs p h.1) (.gd fun q=>.yes (sameX_eq _ _ q ▸ eqv_selfDs _))
theorem eqSy_s {F : Facts} (fo : FactsOk G.V F) (Y : Fy G c W σ h) (a b : SV) : Sat (eqSy F σ a b) fun c=>∀ ⦃va vb⦄,RelV W.kn a va → RelV W.kn b vb → EqR h va vb 12 c :=
  .vRef (P:=fun a c=>∀ ⦃va vb⦄,RelV W.kn a va → RelV W.kn b vb → EqR h va vb 12 c) fun i=>.vRef (P:=fun b c=>∀ ⦃va vb⦄,RelV W.kn (.ref i) va → RelV W.kn b vb → EqR h va vb 12 c) fun j=>.aSy fun n al l e1=>.gd fun q=>.aL
    (fun ys e2=>.gd fun q2=>(eqX_s fo _ _).mono fun c e va vb ra rb=>⟨_,_,(Y.readsSy e1 q ra).1.le (by decide),Y.ref (P:=fun vb=>RdR h vb (.list (pdDs ys)) 12) e2 rb fun a ob hl ro hg=>by obtain ⟨ws,n,rfl,rd⟩:=ro; exact (Y.readsL q2 hg rd).le (by decide),e⟩) (fun _ _=>.no)
    fun _ be m e2=>.gd fun q2=>(eqX_s fo _ _).mono fun c e va vb ra rb=>⟨_,_,(Y.readsSy e1 q ra).1.le (by decide),(Y.readsSy e2 q2 rb).1.le (by decide),e⟩
theorem eqOne_s {F : Facts} (fo : FactsOk G.V F) (Y : Fy G c W σ h) (a b : SV) : Sat (eqOne F σ a b) fun c=>∀ ⦃va vb⦄,RelV W.kn a va → RelV W.kn b vb → EqR h va vb 12 c :=
  .bI (fun _=>eqSy_s fo Y a b) fun _=>.oS (pdV_s Y 3 a) fun x hx=>.om fun y ey va vb ra rb=>⟨x,y,hx ra,pdV_s Y 3 b ey rb,(eqP_eq _ _).symm⟩
inductive EqsR (h : Heap) (vs ws : List Value) (k : Nat) (c : Bool) : Prop | mk (ps qs : List PyData) (r : RdsR h vs ps k) (r' : RdsR h ws qs k) (e : PyData.eqvAll ps qs = c)
theorem eqAll_s {F : Facts} (fo : FactsOk G.V F) (Y : Fy G c W σ h) (xs : List SV) : ∀ ys,Sat (eqAll F σ xs ys) fun c=>∀ ⦃vs ws⦄,RelVs W.kn xs vs → RelVs W.kn ys ws → EqsR h vs ws 12 c:=by
  induction xs with
  | nil=>exact fun ys=>.l0 (P:=fun ys c=>∀ ⦃vs ws⦄,RelVs W.kn [] vs → RelVs W.kn ys ws → EqsR h vs ws 12 c) (.yes fun vs ws r1 r2=>r1.el0 (r2.el0 ⟨[],[],.nil,.nil,rfl⟩))
  | cons a xs ih =>
    refine fun ys=>.lc (P:=fun ys c=>∀ ⦃vs ws⦄,RelVs W.kn (a :: xs) vs → RelVs W.kn ys ws → EqsR h vs ws 12 c) fun b ys=>.oS (eqOne_s fo Y a b) fun q hq=>.gd fun e=>(ih ys).mono fun z hz vs ws r1 r2=>r1.el fun v vs ra r1=>r2.el fun w ws rb r2=>?_
    obtain ⟨x,y,rx,ry,he⟩:=hq ra rb
    obtain ⟨ps,qs,rp,rq,he'⟩:=hz r1 r2
    exact ⟨x :: ps,y :: qs,.cons rx rp,.cons ry rq,by rw [PyData.eqvAll,he,he',e,Bool.true_and]⟩
noncomputable def LsAt (k : Kn) (h : Heap) (xs : List SV) (w : Value) : Prop:=∃ a ws n,w = .ref a ∧ h.get? a = some (listOf (List.toArray ws) n) ∧ RelVs k xs ws
theorem lsO_s (Y : Fy G c W σ h) (v : SV) : Sat (lsO σ v) fun xs=>∀ ⦃w⦄,RelV W.kn v w → LsAt W.kn h xs w :=
  .vRef (P:=fun v xs=>∀ ⦃w⦄,RelV W.kn v w → LsAt W.kn h xs w) fun i=>.aL (fun _ _=>.no) (fun xs e1=>.yes (r:=xs) fun w r=>Y.ref e1 r fun a ob hl ro hg=>by obtain ⟨ws,n,rfl,rd⟩:=ro; exact ⟨a,ws,n,rfl,hg,rd⟩) fun _ _ _ _=>.no
theorem eqV_s {F : Facts} (fo : FactsOk G.V F) (Y : Fy G c W σ h) (a b : SV) : Sat (eqV F σ a b) fun c=>∀ ⦃va vb⦄,RelV W.kn a va → RelV W.kn b vb → EqR h va vb 13 c:=by
  refine .bI (fun _=>.oS (lsO_s Y a) fun xs h1=>.oS (lsO_s Y b) fun ys h2=>(eqAll_s fo Y xs ys).mono fun z hz va vb ra rb=>?_) fun _=>(eqOne_s fo Y a b).mono fun z hz va vb ra rb=>(hz ra rb).le (Nat.le_succ _)
  obtain ⟨a',ws,n,rfl,hg,rd⟩:=h1 ra
  obtain ⟨b',us,m,rfl,hg',rd'⟩:=h2 rb
  obtain ⟨ps,qs,rp,rq,he⟩:=hz rd rd'
  exact ⟨.list ps,.list qs,rp.list hg,rq.list hg',he⟩
theorem shaped_of {x : PyData} {k : Nat} (l : Lay k x) (hk : k ≤ 13) : SeqAt.shaped x = true:=Bool.and_eq_true_iff.mpr ⟨l.1,decide_eq_true (Nat.le_trans l.2 (Nat.le_trans hk (by decide)))⟩
theorem ltL_iff (a : List Nat) : ∀ b,ltL a b = true ↔ a < b:=by
  induction a with
  | nil =>
    intro b
    cases b with
    | nil=>exact ⟨fun h=>nT h,fun h=>absurd h (List.lt_irrefl _)⟩
    | cons b y=>exact ⟨fun _=>List.nil_lt_cons ..,fun _=>rfl⟩
  | cons a x ih =>
    intro b
    cases b with
    | nil=>exact ⟨fun h=>nT h,fun h=>absurd h (List.not_lt_nil _)⟩
    | cons b y =>
      show bI (Nat.blt a b) true (bA (Nat.beq a b) (ltL x y)) = true ↔ _
      rw [List.cons_lt_cons_iff,← ih y]
      cases h : Nat.blt a b with
      | true=>exact ⟨fun _=>.inl (Nat.blt_eq.mp h),fun _=>rfl⟩
      | false =>
        have h : ¬ a < b:=fun q=>by rw [Nat.blt_eq.mpr q] at h; exact nT h.symm
        exact ⟨fun q=>.inr ⟨Nat.eq_of_beq_eq_true (bA_i q).1,(bA_i q).2⟩,fun q=>q.elim (fun q=>absurd q h) fun q=>by
          show bA (Nat.beq a b) (ltL x y) = true
          rw [q.1,Nat.beq_refl]; exact q.2⟩
theorem ltS_eq (x y : Str) : (decide (x.cps.toList < y.cps.toList)) = ltS x y:=Bool.eq_iff_iff.mpr (decide_eq_true_iff.trans (ltL_iff _ _).symm)
theorem isNone_ok {k : Kn} (v : SV) {w : Value} : RelV k v w → (w == .none) = isNoneV v:=by
  cases v with
  | d x =>
    cases x with
    | none=>rintro rfl; rfl
    | bool b=>rintro rfl; rfl
    | int i=>rintro ⟨t,rfl⟩; rfl
    | str s=>rintro ⟨t,rfl⟩; rfl
    | tup xs=>rintro ⟨a,vs,rfl,_⟩; rfl
  | ref i=>rintro ⟨a,_,rfl⟩; rfl
  | tup xs=>rintro ⟨a,vs,rfl,_⟩; rfl
  | top a=>rintro rfl; rfl
  | ty n=>rintro rfl; rfl
  | bi b=>rintro rfl; rfl
theorem isNone_i {v : SV} (h : isNoneV v = true) : v = .d .none:=by
  cases v with
  | d x=>cases x <;> first | rfl | exact nT h
  | _=>exact nT h
theorem isNone_v {k : Kn} {v : SV} {w : Value} (h : isNoneV v = true) (r : RelV k v w) : .none = w:=by
  cases isNone_i h
  exact r.symm
noncomputable def CmpT (G : Cx) (A : Around) (E : Value → Shared → Prop) (s : Shared) (op : CmpOp) (va vb : Value) (z : Bool) : Prop:=∀ ⦃Q : Value → Shared → Prop⦄,(∀ tk,Q (.bool z) { s with toks:=tk }) → wpAny G.M A (compareOp op va vb) Q E s
theorem ordV_s {A : Around} {k : Kn} (op : CmpOp) (a b : SV) {va vb : Value} (ra : RelV k a va) (rb : RelV k b vb) : Sat (ordV op a b) (CmpT G A E s op va vb):=fun z e =>
  Sat.vD (P:=fun a z=>RelV k a va → CmpT G A E s op va vb z) (fun x=>.dK (P:=fun x z=>RelV k (.d x) va → CmpT G A E s op va vb z)
    (fun x=>Sat.mono (.vInt (P:=fun b z=>RelV k b vb → RelV k (.d (.int x)) va → CmpT G A E s op va vb z) fun y=>by
      cases op with
      | Lt=>exact .yes fun rb ra=>ra.i (P:=fun va=>CmpT G A E s _ va vb _) fun t=>rb.i (P:=fun vb=>CmpT G A E s _ _ vb _) fun u Q k=>PySem.P.lt_int (k s.toks)
      | LtE=>exact .yes fun rb ra=>ra.i (P:=fun va=>CmpT G A E s _ va vb _) fun t=>rb.i (P:=fun vb=>CmpT G A E s _ _ vb _) fun u Q k=>PySem.P.le_int (k s.toks)
      | Gt=>exact .yes fun rb ra=>ra.i (P:=fun va=>CmpT G A E s _ va vb _) fun t=>rb.i (P:=fun vb=>CmpT G A E s _ _ vb _) fun u Q k=>PySem.P.gt_int (k s.toks)
      | GtE=>exact .yes fun rb ra=>ra.i (P:=fun va=>CmpT G A E s _ va vb _) fun t=>rb.i (P:=fun vb=>CmpT G A E s _ _ vb _) fun u Q k=>PySem.P.ge_int (k s.toks)
      | _=>exact .no) fun z h=>h rb)
    (fun x=>Sat.mono (.vStr (P:=fun b z=>RelV k b vb → RelV k (.d (.str x)) va → CmpT G A E s op va vb z) fun y=>by
      cases op with
      | Lt=>exact .yes fun rb ra=>ra.s (P:=fun va=>CmpT G A E s _ va vb _) fun t=>rb.s (P:=fun vb=>CmpT G A E s _ _ vb _) fun u Q k=>PySem.P.lt_str (by rw [ltS_eq]; exact k s.toks)
      | Gt=>exact .yes fun rb ra=>ra.s (P:=fun va=>CmpT G A E s _ va vb _) fun t=>rb.s (P:=fun vb=>CmpT G A E s _ _ vb _) fun u Q k=>PySem.P.gt_str (by rw [ltS_eq]; exact k s.toks)
      | _=>exact .no) fun z h=>h rb) fun _=>.no) e ra
theorem eq_cmp {n : Nat} {A : Around} (hA : Room n A) {va vb : Value} {z : Bool} (h : EqR s.heap va vb 13 z) : CmpT G A E s .Eq va vb z ∧ CmpT G A E s .NotEq va vb (!z):=by
  obtain ⟨x,y,⟨as,rx,lx⟩,⟨bs,ry,ly⟩,he⟩:=h
  have hd : A.units + 64 < cLine:=Nat.lt_of_le_of_lt (Nat.add_le_add_left (by decide) _) (room_units hA)
  exact ⟨fun Q k=>eq_dataH rx ry (shaped_of lx (Nat.le_refl _)) (shaped_of ly (Nat.le_refl _)) hd (he.symm ▸ k s.toks),fun Q k=>ne_dataH rx ry (shaped_of lx (Nat.le_refl _)) (shaped_of ly (Nat.le_refl _)) hd (he.symm ▸ k s.toks)⟩
theorem cmp_s {n : Nat} {A : Around} (hA : Room n A) {F : Facts} (fo : FactsOk G.V F) (op : CmpOp) (a b : SV) {va vb : Value} (Y : Fy G c W σ s.heap) (ra : RelV W.kn a va) (rb : RelV W.kn b vb) : Sat (cmp F op a b σ) (CmpT G A E s op va vb):=by
  cases op with
  | Eq=>exact (eqV_s fo Y a b).mono fun z h=>(eq_cmp hA (h ra rb)).1
  | NotEq=>exact .om fun z e=>(eq_cmp hA (eqV_s fo Y a b e ra rb)).2
  | Is=>exact .gd fun q=>.yes fun Q k=>(isNone_v q rb) ▸ PyProof.Rows.is_none_gen (by rw [isNone_ok a ra]; exact k s.toks)
  | IsNot=>exact .gd fun q=>.yes fun Q k=>(isNone_v q rb) ▸ PyProof.Rows.isnot_none_gen (by rw [isNone_ok a ra]; exact k s.toks)
  | In=>exact (memV_s hA fo Y ra rb).mono fun z h=>h.1
  | NotIn=>exact .om fun z e=>(memV_s hA fo Y ra rb e).2
  | _=>exact ordV_s _ a b ra rb
end
structure FirstAt (x : PyData) (ps : List PyData) (j : Nat) : Prop where
  hit : ∃ y,ps[j]? = some y ∧ PyData.eqv y x = true
  no : ∀ m,m < j → ∀ z,ps[m]? = some z → PyData.eqv z x = false
theorem idxP_from {x : PyData} (ps : List PyData) : ∀ k₀,Sat (idxP x ps k₀) fun k=>∃ j,k = k₀ + j ∧ FirstAt x ps j:=by
  induction ps with
  | nil=>exact fun _=>.no
  | cons p ps ih =>
    refine fun k₀=>.bI (fun q=>.yes ⟨0,rfl,⟨p,rfl,eqP_eq p x ▸ q⟩,fun m hm=>absurd hm (Nat.not_lt_zero _)⟩) fun q=>(ih (k₀ + 1)).mono fun k h=>?_
    obtain ⟨j,rfl,h1,h2⟩:=h
    exact ⟨j + 1,(Nat.add_right_comm k₀ 1 j),h1,fun m=>m.casesOn (fun _ z hz=>Option.some.inj hz ▸ eqP_eq p x ▸ q) fun m hm=>h2 m (Nat.lt_of_succ_lt_succ hm)⟩
theorem idxP_first {x : PyData} {ps : List PyData} {k : Nat} (h : idxP x ps 0 = some k) : FirstAt x ps k:=by
  obtain ⟨j,e,h⟩:=idxP_from ps 0 h
  rw [e,Nat.zero_add]
  exact h
theorem Lays.get {n : Nat} {ps : List PyData} (l : Lays n ps) : ∀ {j : Nat} {p : PyData},ps[j]? = some p → Lay n p:=by
  induction ps with
  | nil=>exact fun e=>nS e
  | cons q ps ih=>exact fun {j p}=>j.casesOn (fun e=>Option.some.inj e ▸ ⟨(Bool.and_eq_true_iff.mp l.1).1,(Nat.max_le.mp l.2).1⟩) fun j e=>ih ⟨(Bool.and_eq_true_iff.mp l.1).2,(Nat.max_le.mp l.2).2⟩ e
open Classical in
noncomputable def hits (h : Heap) (px : PyData) (y : Value) : Bool:=decide (∃ d as,Reads h y d as ∧ d.canLay0 = true ∧ PyData.eqv d px = true)
open Classical in
theorem hits_eq {h : Heap} {px d : PyData} {y : Value} {as : List Addr} (r : Reads h y d as) (c : d.canLay0 = true) : hits h px y = PyData.eqv d px:=by
  unfold hits
  cases q : PyData.eqv d px with
  | true=>exact decide_eq_true ⟨d,as,r,c,q⟩
  | false =>
    refine decide_eq_false ?_
    rintro ⟨d',as',r',c',q'⟩
    rw [SeqAt.Reads.unique d d' y as as' c r r',q'] at q
    exact nT q.symm
structure HitsR (h : Heap) (A : Around) (s : Shared) (px : PyData) (x : Value) (vs : Array Value) (j : Nat) : Prop where
  lt : j < vs.size
  hit : hits h px vs[j] = true
  no : ∀ m (hm : m < vs.size),m < j → hits h px vs[m] = false
  all : ∀ y,y ∈ vs → SeqAt.EqAt A.in1 s y x (hits h px y)
theorem hits_of {n i : Nat} {A : Around} (hA : Room n A) {s : Shared} {x : Value} {px : PyData} {ps : List PyData} {bs as : List Addr} {vs : Array Value} {j : Nat} (r : ReadsAll s.heap vs.toList ps as) (l : Lays 20 ps) (rx : Reads s.heap x px bs) (lx : Lay i px) (f : FirstAt px ps j) : HitsR s.heap A s px x vs j:=by
  have hs : vs.size = ps.length:=SeqAt.ReadsAll.length ps _ _ r
  obtain ⟨y,hy,he⟩:=f.hit
  have at' : ∀ (m : Nat) (hm : m < vs.size),∃ p cs,ps[m]? = some p ∧ Reads s.heap vs[m] p cs:=fun m hm=>by
    have hp:=List.getElem?_eq_getElem (l:=ps) (i:=m) (hs ▸ hm)
    obtain ⟨v,cs,e,q⟩:=ReadsAll.atAny r m _ hp
    have e : v = vs[m]:=by simpa [hm] using e.symm
    exact ⟨_,cs,hp,e ▸ q⟩
  have hit : ∀ (m : Nat) (hm : m < vs.size) {p : PyData},ps[m]? = some p → hits s.heap px vs[m] = PyData.eqv p px:=fun m hm p hp=>by
    obtain ⟨p',cs,e,q⟩:=at' m hm
    cases e.symm.trans hp
    exact hits_eq q (l.get hp).1
  have hj : j < vs.size:=hs ▸ (List.getElem?_eq_some_iff.mp hy).1
  refine ⟨hj,(hit j hj hy).trans he,fun m hm hlt=>(hit m hm (List.getElem?_eq_getElem (hs ▸ hm))).trans (f.no m hlt _ (List.getElem?_eq_getElem (hs ▸ hm))),fun z hz=>?_⟩
  obtain ⟨m,hm,rfl⟩:=Array.mem_iff_getElem.mp hz
  obtain ⟨p,cs,e,q⟩:=at' m hm
  rw [hits_eq q (l.get e).1]
  exact SeqAt.eqAt_reads p px _ s _ _ _ _ q rx (l.get e).1 lx.1 (units_min (e:=px.depth) (k:=1) (Nat.le_trans (l.get e).2 (by decide)) (room_units hA) (Nat.le_refl _))
theorem sub_step {k n : Nat} (h : k < n) : n - k = n - (k + 1) + 1:=(Nat.succ_pred_eq_of_pos (Nat.sub_pos_of_lt h)).symm
section
open PySem.SeqAt
theorem tuple_indexAt (l : Addr) (items : Array Value) (n : Nat) (dd : Option Addr) (sl : Array (Option Value)) (x : Value) (e : Value → Bool) (j : Nat) (hj : j < items.size)
    (hit : e items[j] = true) (hno : ∀ m (hm : m < items.size),m < j → e items[m] = false) :
    Meets (Builtin.«tuple.index» ⟨[.ref l,x],[]⟩)
      (fun A R s=>s.heap.get? l = some { cls:=.type "tuple",dict:=dd,data:=.seq items n,slots:=sl } ∧ (∀ y,y ∈ items → EqAt A.in1 s y x (e y)) ∧ R (.ok (.ret (.int j s.toks))) { s with toks:=s.toks + 1 }):=by
  intro prog w A R s h
  obtain ⟨hp,g,d,tk,os⟩:=s; obtain ⟨hl,he,h⟩:=h
  unfold Builtin.«tuple.index»
  simp only [Std.Legacy.Range.forIn_eq_forIn_range']
  have cut : ∀ {k k' : Nat} {rest : List Nat},k' ≤ j → k :: rest = List.range' k' (items.size - k') 1 → k = k' ∧ k < items.size ∧ rest = List.range' (k + 1) (items.size - (k + 1)) 1:=fun {k k' rest} hk e=>by
    rw [sub_step (Nat.lt_of_le_of_lt hk hj),List.range'_succ] at e
    cases e
    exact ⟨rfl,Nat.lt_of_le_of_lt hk hj,rfl⟩
  have key : ∀ N : Nat,N = items.size → wpAny (model prog w) A.in1 (forIn (List.range' 0 N 1) ((none,()) : Option Fin × Unit) fun (i : Nat) __s=>match items[i]? with
      | some y=>do
        let c ← eqBool y x
        if c = true then do
          let r ← retInt ↑i
          pure (ForInStep.done (some r,()))
        else pure (ForInStep.yield (none,()))
      | _=>pure (ForInStep.yield (none,()))) (fun r s'=>r = (some (.done (.ret (.int j tk))),()) ∧ s' = ⟨hp,g,d,tk + 1,os⟩) (fun e s'=>R (.error e) s') ⟨hp,g,d,tk,os⟩:=by
    rintro N rfl
    refine wpAny_forIn_list _ (fun l b s'=>(∃ k,l = List.range' k (items.size - k) 1 ∧ k ≤ j) ∧ b = (none,()) ∧ s' = ⟨hp,g,d,tk,os⟩) _ (fun k rest b s' hI=>?_) (fun b s' hI=>?_) _ _ ⟨⟨0,rfl,Nat.zero_le _⟩,rfl,rfl⟩
    · obtain ⟨⟨k',hk,hkj⟩,rfl,rfl⟩:=hI
      obtain ⟨rfl,hlt,h2⟩:=cut hkj hk
      rw [Array.getElem?_eq_getElem hlt]
      refine wpAny_bind (he _ (Array.getElem_mem hlt) prog w _ _ ?_)
      by_cases hkj' : k = j
      · subst hkj'
        rw [hit,if_pos rfl]
        wp_walk
        exact ⟨rfl,rfl⟩
      · rw [hno k hlt (Nat.lt_of_le_of_ne hkj hkj'),if_neg Bool.false_ne_true]
        exact wpAny_pure ⟨⟨k + 1,h2,Nat.lt_of_le_of_ne hkj hkj'⟩,rfl,rfl⟩
    · obtain ⟨⟨k',hk,hkj⟩,_,_⟩:=hI
      rw [sub_step (Nat.lt_of_le_of_lt hkj hj),List.range'_succ] at hk
      cases hk
  wp_walk using wpAny_loadPart' hl
  refine wpAny_mono (key _ (by simp [Std.Legacy.Range.size])) (fun r s' hr=>?_) fun _ _ y=>y
  obtain ⟨rfl,rfl⟩:=hr
  exact wpAny_pure h
end
section
variable {G : Cx} {c : Ct} {W : Wd} {σ : Sto} {E : Value → Shared → Prop} {s : Shared}
noncomputable def idxNm (t : Bool) : String:=bI t "tuple.index" "list.index"
theorem call_index {n i : Nat} {A : Around} (hA : Room n A) {va vy : Value} {p px : PyData} {ps : List PyData} {t : Bool} {j : Nat} (hp : p = bI t (.tuple ps) (.list ps)) (r : RdR s.heap va p 20) (rx : RdR s.heap vy px i) (f : FirstAt px ps j) (hz : j ≤ 5000) {Q : Value → Shared → Prop} (h : ∀ t tk,Q (.int j t) { s with toks:=tk }) :
    wpAny G.M A (call (.builtin (idxNm t)) [va,vy]) Q E s:=by
  obtain ⟨as,ra,l⟩:=r
  obtain ⟨bs,rx,lx⟩:=rx
  subst hp
  cases t with
  | true =>
    obtain ⟨a,o,vs,n,rfl,k1,k2,k3,k4⟩:=reads_tuple_inv ra
    have H:=hits_of (A:=A) hA k4 ⟨l.1,Nat.le_of_succ_le l.2⟩ rx lx f
    obtain ⟨cl,dd,dt,sl⟩:=o
    dsimp only at k2 k3
    subst k2 k3
    exact call_meets PySem.F.slot_tuple_index ⟨_,k1,rfl⟩ PySem.F.entry_tuple_index (PySem.F.args_tuple_index_2 _ _) (tuple_indexAt _ vs n dd sl vy _ j H.lt H.hit H.no) ⟨k1,H.all,h _ _⟩
  | false =>
    obtain ⟨a,o,vs,n,_,rfl,k1,k2,k3,k4,_⟩:=reads_list_inv ra
    have H:=hits_of (A:=A) hA k4 ⟨l.1,Nat.le_of_succ_le l.2⟩ rx lx f
    obtain ⟨cl,dd,dt,sl⟩:=o
    dsimp only at k2 k3
    subst k2 k3
    exact call_meets PySem.F.slot_list_index ⟨_,k1,rfl⟩ PySem.F.entry_list_index (PySem.F.args_list_index_2 _ _) (SeqAt.list_indexAt _ vs n dd sl vy _ j H.lt (Int.lt_of_le_of_lt (Int.ofNat_le.mpr hz) (by decide)) H.hit H.no) ⟨k1,H.all,h _ _⟩
noncomputable def IdxT (G : Cx) (A : Around) (E : Value → Shared → Prop) (s : Shared) (t : Bool) (va vy : Value) (k : Nat) : Prop:=∀ ⦃Q : Value → Shared → Prop⦄,(∀ t tk,Q (.int k t) { s with toks:=tk }) → wpAny G.M A (call (.builtin (idxNm t)) [va,vy]) Q E s
theorem idxS_s {n : Nat} {A : Around} (hA : Room n A) {y v : SV} {vy va : Value} (t : Bool) (Y : Fy G c W σ s.heap) (ra : RelV W.kn v va) (ry : RelV W.kn y vy) : Sat (idxS σ y v t) (IdxT G A E s t va vy):=by
  refine .oS (pdV_s Y 4 y) fun x hx=>.oS (pdV_s Y 4 v) fun p hp=>?_
  cases p with
  | list ps =>
    cases t with
    | true=>exact .no
    | false=>exact fun k e=>Sat.oo (P:=IdxT G A E s false va vy) (fun k hk=>.gle fun hz=>.yes fun Q h=>call_index hA (t:=false) rfl ((hp ra).le (by decide)) (hx ry) (idxP_first hk) hz h) e
  | tuple ps =>
    cases t with
    | true=>exact fun k e=>Sat.oo (P:=IdxT G A E s true va vy) (fun k hk=>.gle fun hz=>.yes fun Q h=>call_index hA (t:=true) rfl ((hp ra).le (by decide)) (hx ry) (idxP_first hk) hz h) e
    | false=>exact .no
  | _=>exact .no
theorem idxU_s {n : Nat} {A : Around} (hA : Room n A) {F : Facts} (fo : FactsOk G.V F) {y : SV} {vy va : Value} {i m : Nat} {al : List D} {l : LX} (e1 : σ[i]? = some (.sy m al l)) (Y : Fy G c W σ s.heap) (ra : RelV W.kn (.ref i) va) (ry : RelV W.kn y vy) : Sat (idxU F y m al l) (IdxT G A E s false va vy):=fun k e =>
  Sat.vD (P:=fun y k=>RelV W.kn y vy → IdxT G A E s false va vy k) (fun x=>.gd fun q=>.gd fun q'=>.gle fun hm=>.oo fun z hz k e ry Q h=>by
    subst e
    have hi:=idxX_s fo l x hz
    obtain ⟨r1,hl⟩:=Y.readsSy e1 q ra
    obtain ⟨bs,rx⟩:=Y.readsD x ry
    have f:=idxP_first hi
    obtain ⟨y,hy,_⟩:=f.hit
    have:=(List.getElem?_eq_some_iff.mp hy).1
    rw [pdDs_length] at this
    exact call_index hA (t:=false) rfl (r1.le (by decide)) ⟨bs,rx,okD_lay 8 x q'⟩ f (Nat.le_trans (Nat.le_of_lt this) (Nat.le_trans hl hm)) h) e ry
theorem idxL_s {n : Nat} {A : Around} (hA : Room n A) {F : Facts} (fo : FactsOk G.V F) {y v : SV} {vy va : Value} (Y : Fy G c W σ s.heap) (ra : RelV W.kn v va) (ry : RelV W.kn y vy) : Sat (idxL F σ y v) (IdxT G A E s false va vy):=fun k e =>
  Sat.vRef (P:=fun v k=>RelV W.kn v va → IdxT G A E s false va vy k) (fun i=>.aO fun o e1=>by
    cases o with
    | dl _=>exact fun k e ra=>idxS_s hA false Y ra ry e
    | ls _=>exact fun k e ra=>idxS_s hA false Y ra ry e
    | sy m al l=>exact fun k e ra=>idxU_s hA fo e1 Y ra ry e
    | _=>exact .no) e ra
end
noncomputable def IsnOk (K : Frag) (D C : Addr) : Prop :=
  kin_not K D C = true ∧ plainGet K D "__class__" = true ∧ hasDictIn K D = true ∧ findIn K (.ref D) "__class__" = some (some (.builtin "object.__class__")) ∧
  specialIn K (.builtin "object.__class__") "__get__" = some (some (.builtin "getset_descriptor.__get__")) ∧ takesIn K (.builtin "object.__class__") = some true ∧ mroIn K D (.type "object") = some true
structure ClsOk (K : Frag) : Prop where
  is : ∀ c,isCls c = true → isIn K (.ref c) c = true
  isnt : ∀ c c',isCls c = true → isCls c' = true → c' ≠ c → IsnOk K c' c
  mods : (K.lookup sysModules).isSome = true
theorem le63 {n : Nat} (h : n ≤ 5000) : (n : Int) < 2 ^ 63:=Int.lt_of_le_of_lt (Int.ofNat_le.mpr h) (by decide)
section
variable {G : Cx} {c : Ct} {W : Wd} {σ : Sto} {E : Value → Shared → Prop} {s : Shared} {h : Heap}
theorem lenO_s {F : Facts} (fo : FactsOk G.V F) {k : Kn} (o : SO) : Sat (lenO F o) fun n=>∀ ⦃ob⦄,RelO G.V k o ob → LsR ob fun ws=>ws.length = n :=
  .oL (P:=fun o n=>∀ ⦃ob⦄,RelO G.V k o ob → LsR ob fun ws=>ws.length = n) (fun xs=>.yes fun ob r=>LsR.mono r fun ws r=>r.length.trans (K.len_eq xs).symm) (fun xs=>.yes fun ob r=>LsR.mono r fun ws r=>r.length.trans (K.len_eq xs).symm) fun n al l=>.gle fun _=>(lenX_s fo l).mono fun k e ob r=>LsR.mono r fun ws r=>r.2.2.length.trans e
noncomputable def LenT (G : Cx) (A : Around) (E : Value → Shared → Prop) (s : Shared) (va : Value) (n : Nat) : Prop:=∀ ⦃Q : Value → Shared → Prop⦄,(∀ t tk,Q (.int n t) { s with toks:=tk }) → wpAny G.M A (call (.builtin "len") [va]) Q E s
theorem lenV_s {A : Around} {F : Facts} (fo : FactsOk G.V F) {v : SV} {va : Value} (Y : Fy G c W σ s.heap) (ra : RelV W.kn v va) : Sat (lenV F σ v) (LenT G A E s va):=fun n e =>
  Sat.vK (P:=fun v n=>RelV W.kn v va → LenT G A E s va n)
    (fun x=>.dK (P:=fun x n=>RelV W.kn (.d x) va → LenT G A E s va n) (fun _=>.no)
      (fun x=>.glen fun hz=>.yes fun ra=>ra.s (P:=fun va=>LenT G A E s va _) fun t Q k=>by
        have hl : x.cps.toList.length = x.length:=Array.length_toList
        rw [K.len_eq,hl] at k
        exact PySem.P.len_str (Int.not_le.mpr (le63 (hl ▸ hz))) (k _ _))
      fun xs=>.glen fun hz=>.yes fun ra=>relD_at (P:=fun va=>LenT G A E s va _) Y ra fun a ws ht rd Q k=>by
        rw [K.len_eq,← rd.length] at k
        exact len_tuple ht (by rw [List.size_toArray,rd.length]; exact le63 hz) (by rw [List.size_toArray]; exact k _ _))
    (fun i => .aO fun o e1=>.oe (.oS (lenO_s (k:=W.kn) fo o) fun k hk=>.gle fun hz=>.yes fun ra=>Y.ref (P:=fun va=>LenT G A E s va k) e1 ra fun a ob hl ro hg Q q=>by
        obtain ⟨ws,n,rfl,rfl⟩:=hk ro
        exact len_list (items:=ws.toArray) ⟨_,hg,rfl,n,rfl⟩ (by rw [List.size_toArray]; exact le63 hz) (by rw [List.size_toArray]; exact q _ _))
      fun n e ra=>Sat.oDi (P:=fun o n=>RelO G.V W.kn o = RelO G.V W.kn o → σ[i]? = some o → LenT G A E s va n) (fun es=>.glen fun hz=>.yes fun _ e1=>Y.ref (P:=fun va=>LenT G A E s va _) e1 ra fun a ob hl ro hg Q q=>by
        obtain ⟨nd,kvs,hd,rk⟩:=relO_di (prog:=pw) ro
        rw [K.len_eq,← rk.length] at q
        exact call_len_dict (Y.loAt hl) (Heap.dictOf_iff.mpr ⟨_,hg,hd⟩) (by rw [rk.length]; exact le63 hz) (q _ _)) (fun _=>.no) (fun _ _=>.no) e rfl e1)
    (fun xs=>.glen fun hz=>.yes fun ra=>relV_at (P:=fun va=>LenT G A E s va _) Y ra fun a ws ht rd Q k=>by
        rw [K.len_eq,← rd.length] at k
        exact len_tuple ht (by rw [List.size_toArray,rd.length]; exact le63 hz) (by rw [List.size_toArray]; exact k _ _)) e ra
theorem relVs_1 {k : Kn} {a : SV} {ws : List Value} (h : RelVs k [a] ws) {P : List Value → Prop} (q : ∀ v,RelV k a v → P [v]) : P ws:=h.el fun v r h1 h2=>h2.el0 (q v h1)
theorem relVs_2 {k : Kn} {a b : SV} {ws : List Value} (h : RelVs k [a,b] ws) {P : List Value → Prop} (q : ∀ v w,RelV k a v → RelV k b w → P [v,w]) : P ws:=h.el fun v r h1 h2=>relVs_1 (P:=fun r=>P (v :: r)) h2 fun w h3=>q v w h1 h3
theorem bIsin_s {n : Nat} (co : ClsOk G.K) (a b : SV) : Sat (bIsin a b σ) (U2 (OpT G n (.builtin "isinstance") [a,b] σ)):=by
  refine .vRef (P:=fun a=>U2 (OpT G n (.builtin "isinstance") [a,b] σ)) fun i=>?_
  cases b with
  | top C =>
    refine .aIn fun D d es e1 e2=>.gd fun h1=>.gd fun h2=>.yes fun c W E Q s vals hA Y r k=>relVs_2 (P:=fun vals=>wpAny G.M c.A (call (.builtin "isinstance") vals) Q E s) r fun v w r1 r2=>?_
    obtain ⟨a,dx,ds,n,rfl,hl,nd,re,I⟩:=Y.inst e1 e2 r1
    cases (show w = .ref C from r2)
    have X':=Y.Z.X.keeps Y.F.keep
    by_cases q : D = C
    · subst q
      rw [Nat.beq_refl] at k
      exact isi_call X' (fun M=>I.type) (co.is D h2) (by intro q; cases q) (k.here Y relV_bool)
    · rw [show Nat.beq D C = false from Bool.eq_false_iff.mpr fun z=>q (Nat.eq_of_beq_eq_true z)] at k
      obtain ⟨a1,a2,a3,a4,a5,a6,a7⟩:=co.isnt C D h1 h2 q
      exact kin_callC X' I a1 a2 a3 a4 a5 a6 a7 (k.here Y relV_bool)
  | _=>exact .no
theorem ltCps_ltL (a b : List Nat) : PySem.Spec.ltCps a b = ltL a b:=(ltCps_eq (a:=a) (b:=b)).trans (Bool.eq_iff_iff.mpr (decide_eq_true_iff.trans (ltL_iff a b).symm))
theorem perm_pair {α : Type} {x y a b : α} (h : [x,y].Perm [a,b]) : (x = a ∧ y = b) ∨ (x = b ∧ y = a):=by
  rcases List.mem_cons.mp (h.mem_iff.mp (.head _)) with e | e
  · subst e
    exact .inl ⟨rfl,List.singleton_perm_singleton.mp h.cons_inv⟩
  · cases List.mem_singleton.mp e
    exact .inr ⟨rfl,List.singleton_perm_singleton.mp (h.trans (List.Perm.swap ..)).cons_inv⟩
theorem sorts_two {es : List (Str × SV)} : Sat (sort2 es) fun l=>es.length ≤ 2 ∧ ∀ ss : List Str,ss.Perm (keyed es) → sortedS ss = true → ss = l:=by
  refine .lc (P:=fun es l=>es.length ≤ 2 ∧ ∀ ss : List Str,ss.Perm (keyed es) → sortedS ss = true → ss = l) fun a r=>.lr (P:=fun r l=>(a :: r).length ≤ 2 ∧ ∀ ss : List Str,ss.Perm (keyed (a :: r)) → sortedS ss = true → ss = l) (.yes ⟨Nat.le_succ 1,fun ss hp _=>List.perm_singleton.mp hp⟩) fun b r=>.l0 (P:=fun r l=>(a :: b :: r).length ≤ 2 ∧ ∀ ss : List Str,ss.Perm (keyed (a :: b :: r)) → sortedS ss = true → ss = l) ?_
  have two : ∀ ss : List Str,ss.Perm [a.1,b.1] → sortedS ss = true → (ss = [a.1,b.1] ∧ ltS b.1 a.1 = false) ∨ (ss = [b.1,a.1] ∧ ltS a.1 b.1 = false):=fun ss hp hs=>by
    match ss,hp.length_eq with
    | [x, y],_ =>
      have hs' : (!ltL y.cps.toList x.cps.toList) = true:=by
        have:=hs
        simp only [sortedS,risingS,Bool.and_true,ltCps_ltL] at this
        exact this
      have hs':=Bool.not_eq_true' _ ▸ hs'
      rcases perm_pair hp with ⟨rfl,rfl⟩ | ⟨rfl,rfl⟩
      · exact .inl ⟨rfl,hs'⟩
      · exact .inr ⟨rfl,hs'⟩
  refine .bI (fun q=>.yes ⟨Nat.le_refl 2,fun ss hp hs=>(two ss hp hs).elim (fun h=>nT (h.2.symm.trans q)) fun h=>h.1⟩) fun _=>.gd fun q=>.yes ⟨Nat.le_refl 2,fun ss hp hs=>(two ss hp hs).elim (fun h=>h.1) fun h=>nT (h.2.symm.trans q)⟩
theorem strsAre_rel {tps : Led} {vs : List Value} {ss : List Str} (h : StrsAre vs ss) : RelDs tps (K.lmap .str ss) vs:=by
  induction h with
  | nil=>exact rfl
  | cons y t _ ih=>exact .cons ⟨t,rfl⟩ ih
theorem strs_of {ks : List Str} : ∀ {vs : List Value},vs.length = ks.length → (∀ (j : Nat) (v : Value),vs[j]? = some v → ∃ x t,v = .str x t ∧ ks[j]? = some x) → StrsAre vs ks:=by
  induction ks with
  | nil =>
    intro vs h _
    cases List.eq_nil_of_length_eq_zero h
    exact .nil
  | cons x ks ih =>
    intro vs h hk
    cases vs with
    | nil=>exact nomatch h
    | cons v vs =>
      obtain ⟨x',t,rfl,hx⟩:=hk 0 v rfl
      cases hx
      exact .cons x t (ih (Nat.succ.inj h) fun j v hj=>hk (j + 1) v hj)
theorem relKV_at {k : Kn} {es : List (Str × SV)} {kvs : List (Str × Value)} {j : Nat} {x : Str} {v : Value} (h : RelKV k es kvs) (e : kvs[j]? = some (x,v)) : (keyed es)[j]? = some x:=by
  rw [← h.keys,List.getElem?_map,e]
  rfl
theorem Fy.notMods (co : ClsOk G.K) (Y : Fy G c W σ h) {B : Addr} (hb : c.h₀.get? B = none) : (B == sysModules) = false:=beq_eq_false_iff_ne.mpr fun q=>by
  obtain ⟨o,ho⟩:=Option.isSome_iff_exists.mp co.mods
  have h1:=Y.Z.X _ _ ho
  rw [← q,hb] at h1
  exact nS h1
theorem Post.made (co : ClsOk G.K) {o : SO} {ob : Obj} {B : Addr} {h' : Heap} {Q : Value → Shared → Prop} (k : Post G c W (.ref σ.length) (σ ++ [o]) Q s) (Y : Fy G c W σ s.heap) (F' : Fr c.h₀ c.L h' c.m) (N' : News c.h₀ c.L h' ((B,ob) :: c.all W)) (l1 : ∀ p ∈ c.all W,p.1 < B) (r : RelO G.V W.kn o ob) {tk : Nat} : Q (.ref B) { s with heap:=h',toks:=tk } :=
  k.new Y F' N' (fun p hp=>Nat.ne_of_lt (l1 p hp)) (Y.notMods co (N' _ (.head _)).2.2) r
theorem sorted_s {n : Nat} (co : ClsOk G.K) (v : SV) : Sat (vRef v fun i=>aDi σ i fun es=>oo (sort2 es) fun l=>nw σ (.dl (K.lmap .str l))) (U2 (OpT G n (.builtin "sorted") [v] σ)):=by
  refine .vRef (P:=fun v=>U2 (OpT G n (.builtin "sorted") [v] σ)) fun i=>.aDi fun es e1=>.oS sorts_two fun l hs2=>.nw fun c W E Q s vals hA Y r k=>relVs_1 (P:=fun vals=>wpAny G.M c.A (call (.builtin "sorted") vals) Q E s) r fun v r=>Y.ref (P:=fun v=>wpAny G.M c.A (call (.builtin "sorted") [v]) Q E s) e1 r fun a ob hl ro hg=>?_
  obtain ⟨nd,kvs,hd,rk⟩:=relO_di (prog:=pw) ro
  have hlen : kvs.length ≤ 2:=rk.length ▸ hs2.1
  have hD : s.heap.DictOf (PySem.strKind pw G.w) a kvs:=Heap.dictOf_iff.mpr ⟨_,hg,hd⟩
  obtain ⟨ep,hat⟩:=hD.dictAt
  refine kdu_sorted (kdl_dict (knd:=PySem.strKind pw G.w) (kvs:=kvs) (ep:=ep) (Y.loAt hl)) hA.1 Y.F Y.N hat (kdl_size (by omega)) fun B h' tk vs F' N' l1 hlv hv=>?_
  have hz : vs.length = kvs.length:=hlv
  have hm:=N' _ (.head _)
  have hS : StrsAre vs (keyed es):=strs_of (hz.trans (rk.length.trans (List.length_map _).symm)) fun j v hj=>by
    obtain ⟨x,y,hx,hk⟩:=hv j v hj
    obtain ⟨t,rfl⟩:=Value.isStrOf_shape hk
    exact ⟨x,t,rfl,relKV_at rk hx⟩
  have ho : h'.get? B = some (seqObj "list" vs.toArray 0):=hm.1
  refine wpAny_call_entry PyProof.Rows.slot_list_sort ⟨_,ho,rfl⟩ PyProof.Rows.entry_list_sort (list_sort_treeK strKind_oneLt (n:=0) (vs:=vs) ho hS.keysOf (fun v₁ v₂ rest e=>keyKind_strs (by rw [← e]; exact hS)) (by omega) fun st' hp hs=>⟨.none,rfl,?_⟩) (PyProof.Rows.args_list_sort _)
  obtain ⟨ss',h1,h2,h3⟩:=sorted_out_str hS hp hs
  cases hs2.2 ss' h2 h3
  obtain ⟨cc,hc⟩:=sortedHeap_at (vs:=vs) (out:=(arrOf st').map (·.2)) ho
  have F4 : Fr c.h₀ c.L (sortedHeap h' B vs ((arrOf st').map (·.2))) c.m :=
    ksk_fr (((ksk_fr F' (Heap.SameBut.update h' B (Obj.mapSeq fun _=>#[])) hm.2.1 hm.2.2).push (seqObj "tuple" vs.toArray 0)).push (seqObj "list" #[] 0)) (Heap.SameBut.update _ B (Obj.mapSeq fun _=>(arrOf st').map (·.2))) hm.2.1 hm.2.2
  refine k.made co Y F4 (fun p hp=>?_) l1 ⟨_,cc,rfl,strsAre_rel h1⟩
  rcases List.mem_cons.mp hp with rfl | hp
  · exact ⟨by rw [Array.toArray_toList]; exact hc,hm.2⟩
  · have y:=N' p (.tail _ hp)
    exact ⟨(sortedHeap_old (Nat.ne_of_lt (l1 p hp)) (Heap.lt_size y.1)).trans y.1,y.2⟩
theorem bfn_s {n : Nat} {F : Facts} (fo : FactsOk G.V F) (co : ClsOk G.K) (id : Bi) (args : List SV) : Sat (bfn F id args σ) (U2 (OpT G n (.builtin (biName id)) args σ)):=by
  cases id with
  | len=>exact .l1 (P:=fun args=>U2 (OpT G n (.builtin "len") args σ)) fun v=>.om fun m e c W E Q s vals hA Y r k=>relVs_1 (P:=fun vals=>wpAny G.M c.A (call (.builtin "len") vals) Q E s) r fun v r=>lenV_s fo Y r e fun t tk=>k.here Y relV_int
  | max =>
    refine .l2 (P:=fun args=>U2 (OpT G n (.builtin "max") args σ)) fun a b=>.vInt (P:=fun a=>U2 (OpT G n (.builtin "max") [a,b] σ)) fun x=>.vInt (P:=fun b=>U2 (OpT G n (.builtin "max") [_,b] σ)) fun y=>.om fun z e c W E Q s vals hA Y r k=>relVs_2 (P:=fun vals=>wpAny G.M c.A (call (.builtin "max") vals) Q E s) r fun v w r1 r2=>?_
    obtain ⟨t,rfl⟩:=r1
    obtain ⟨u,rfl⟩:=r2
    cases e
    exact max_two_N hA.1 Y.F Y.N fun h' tk F' N'=>k (Y.at' F' N') ⟨_,rfl⟩ (Kn.Le.refl _)
  | abs=>exact .l1 (P:=fun args=>U2 (OpT G n (.builtin "abs") args σ)) fun v=>.vInt (P:=fun v=>U2 (OpT G n (.builtin "abs") [v] σ)) fun x=>.yes fun c W E Q s vals hA Y r k=>relVs_1 (P:=fun vals=>wpAny G.M c.A (call (.builtin "abs") vals) Q E s) r fun v r=>r.i (P:=fun v=>wpAny G.M c.A (call (.builtin "abs") [v]) Q E s) fun t=>call_abs_int fun u tk=>k.here Y relV_int
  | isinstance=>exact .l2 (P:=fun args=>U2 (OpT G n (.builtin "isinstance") args σ)) fun a b=>bIsin_s co a b
  | sorted=>exact .l1 (P:=fun args=>U2 (OpT G n (.builtin "sorted") args σ)) fun v=>sorted_s co v
end
theorem roomO_s {o : SO} {x : Option (SV × Sto)} : Sat (roomO o x) fun r=>x = some r ∧ ∀ ⦃X k ob⦄,RelO X k o ob → PartR X k o ob fun ws=>ws :=
  .oL (P:=fun o r=>x = some r ∧ ∀ ⦃X k ob⦄,RelO X k o ob → PartR X k o ob fun ws=>ws) (fun xs=>.glen fun hz r e=>⟨e,fun X k ob r=>LsR.mono r fun ws r=>⟨by rw [All2.length r]; exact hz,fun j=>⟨_,j,rfl,r⟩⟩⟩) (fun xs=>.glen fun hz r e=>⟨e,fun X k ob r=>LsR.mono r fun ws r=>⟨by rw [All2.length r]; exact hz,fun j=>⟨_,j,rfl,r⟩⟩⟩)
    fun m al l=>.gle fun hz r e=>⟨e,fun X k ob r=>LsR.mono r fun ws r=>⟨by rw [All2.length r.2.2]; exact Nat.le_trans r.2.1 hz,fun j=>⟨_,j,rfl,r⟩⟩⟩
theorem relVs_one {k : Kn} {a : SV} {ws : List Value} (h : RelVs k [a] ws) : ∃ v,ws = [v] ∧ RelV k a v:=relVs_1 (P:=fun ws=>∃ v,ws = [v] ∧ RelV k a v) h fun v r=>⟨v,rfl,r⟩
theorem relVs_two {k : Kn} {a b : SV} {ws : List Value} (h : RelVs k [a,b] ws) : ∃ v w,ws = [v,w] ∧ RelV k a v ∧ RelV k b w:=relVs_2 (P:=fun ws=>∃ v w,ws = [v,w] ∧ RelV k a v ∧ RelV k b w) h fun v w r r'=>⟨v,w,rfl,r,r'⟩
theorem le1000 {n : Nat} (h : n ≤ 1000) : n ≤ sizeLine:=Nat.le_trans h (by decide)
section
variable {G : Cx} {c : Ct} {W : Wd} {σ : Sto} {E : Value → Shared → Prop} {s : Shared} {h : Heap} {n : Nat} {F : Facts}
theorem OpT.ref {f : Value} {i : Nat} {ys : List SV} {o : SO} {sv : SV} {σ' : Sto} (e1 : σ[i]? = some o) (q : ∀ ⦃c : Ct⦄ ⦃W : Wd⦄ ⦃E Q : Value → Shared → Prop⦄ ⦃s : Shared⦄ ⦃us : List Value⦄ ⦃a : Addr⦄ ⦃ob : Obj⦄,Room n c.A → Fy G c W σ s.heap → RelVs W.kn ys us → W.led[i]? = some (a,ob) → RelO G.V W.kn o ob → s.heap.get? a = some ob → Post G c W sv σ' Q s → wpAny G.M c.A (call f (.ref a :: us)) Q E s) : OpT G n f (.ref i :: ys) σ sv σ' :=
  fun c W E Q s vals hA Y r k=>r.el (P:=fun vals=>wpAny G.M c.A (call f vals) Q E s) fun v us r1 r2=>Y.ref (P:=fun v=>wpAny G.M c.A (call f (v :: us)) Q E s) e1 r1 fun a ob hl ro hg=>q hA Y r2 hl ro hg k
theorem tyf_s (co : ClsOk G.K) (id : Ty) (args : List SV) : Sat (tyf id args σ) (U2 (OpT G n (.type (tyName id)) args σ)):=by
  refine .l1 (P:=fun args=>U2 (OpT G n (.type (tyName id)) args σ)) fun v=>?_
  cases id with
  | list =>
    refine .vRef (P:=fun v=>U2 (OpT G n (.type "list") [v] σ)) fun i=>.aO fun o e1 r e=>?_
    obtain ⟨e,hp⟩:=roomO_s e
    refine Sat.nw (P:=OpT G n (.type "list") [.ref i] σ) (.ref e1 fun c W E Q s us a ob hA Y r hl ro hg k=>?_) e
    cases (show us = [] from r)
    obtain ⟨ws,m,rfl,hz,rr⟩:=hp ro
    exact list_copyK (items:=ws.toArray) Y.F Y.N ⟨_,hg,rfl,m,rfl⟩ (fun D c h' F' N' l1=>k.made co Y F' N' l1 (rr c)) (by rw [List.size_toArray]; exact le1000 hz)
  | dict =>
    refine .vRef (P:=fun v=>U2 (OpT G n (.type "dict") [v] σ)) fun i=>.aDi fun es e1=>.glen fun hz=>.nw (.ref e1 fun c W E Q s us a ob hA Y r hl ro hg k=>?_)
    cases (show us = [] from r)
    obtain ⟨nd,kvs,hd,rk⟩:=relO_di (prog:=pw) ro
    refine kt_call_dict (knd:=PySem.strKind pw G.w) (Y.loAt hl) (Heap.dictOf_iff.mpr ⟨_,hg,hd⟩) (by rw [rk.length]; exact le1000 hz) fun h' hm hs=>?_
    obtain ⟨o',ho',hd'⟩:=Heap.dictOf_iff.mp hm
    have N1:=News.push Y.F Y.N { cls:=.type "dict",data:=.dict #[] } rfl
    exact k.new Y ((Y.F.push _).change hs (N1 _ (.head _)).2.1 (N1.fresh (.head _))) (N1.setHead Y.N.apart hs ho') Y.ne Y.hi (relO_of hd' rk)
  | str =>
    refine .vInt (P:=fun v=>U2 (OpT G n (.type "str") [v] σ)) fun i=>.ite fun hz=>.yes fun c W E Q s vals hA Y r k=>?_
    obtain ⟨_,rfl,t,rfl⟩:=relVs_one r
    refine PySem.P.str_of_int ?_ (k.here Y relV_str)
    by_cases q : i.natAbs = 0
    · rw [q]; decide
    · have:=(Nat.log2_lt (n:=i.natAbs) (k:=100) q).mpr hz
      omega
  | range=>exact .no
  | bool =>
    refine .vD (P:=fun v=>U2 (OpT G n (.type "bool") [v] σ)) fun x=>?_
    cases x with
    | bool b=>exact .yes fun c W E Q s vals hA Y r k=>relVs_1 (P:=fun vals=>wpAny G.M c.A (call (.type "bool") vals) Q E s) r fun v r=>(show v = .bool b from r) ▸ call_bool_bool (k.here Y relV_bool)
    | _=>exact .no
end
theorem updF_pre {d : Addr} {o : Obj} {g : Obj → Led} {l : Led} (h : UpdF d o l g) (pre : Led) (hp : ∀ p ∈ pre,p.1 ≠ d) : UpdF d o (pre ++ l) (fun o'=>pre ++ g o'):=by
  induction pre with
  | nil=>exact h
  | cons p r ih=>exact .tail (hp p (.head _)) (ih fun q hq=>hp q (.tail _ hq))
theorem updF_led {d : Addr} {o : Obj} {led tps : Led} (ht : ∀ p ∈ tps,p.1 ≠ d) : ∀ {i : Nat},led[i]? = some (d,o) → (led.map (·.1)).Nodup → UpdF d o (led ++ tps) (fun o'=>led.set i (d,o') ++ tps):=by
  induction led with
  | nil=>exact fun h _=>nS h
  | cons p r ih =>
    intro i h nd
    rw [List.map_cons,List.nodup_cons] at nd
    cases i with
    | zero =>
      cases h
      exact .head fun q hq=>(List.mem_append.mp hq).elim (fun hq e=>nd.1 (List.mem_map.mpr ⟨q,hq,e⟩)) (ht q)
    | succ i=>exact .tail (fun e=>nd.1 (List.mem_map.mpr ⟨(d,o),List.mem_of_getElem? h,e.symm⟩)) (ih h nd.2)
theorem noCT_dictOf {o : Obj} {w : World} {kvs : List (Str × Value)} (h : o.IsDictOf (PySem.strKind pw w) kvs) : NoCT o:=fun vs e=>by
  obtain ⟨ds,n,⟨h1,h2,h3⟩,-⟩:=h
  rw [e] at h1
  exact absurd (Value.type.inj h1) (by decide)
theorem upd_list {h : Heap} {D : Addr} {its : Array Value} {n : Nat} (hg : h.get? D = some (W.listOf its n)) (f : Array Value → Array Value) : ∃ n',(h.update D (Obj.mapSeq f)).get? D = some (W.listOf (f its) n'):=by
  have q:=PySem.IsL.update hg f
  by_cases z : (f its).size = its.size
  · exact ⟨n,by rw [q]; simp [z,W.listOf]⟩
  · exact ⟨n + 1,by rw [q]; simp [z,W.listOf]⟩
theorem without_cons {x : Str} {p : Str × Value} {r : List (Str × Value)} (nd : (keyed (p :: r)).Nodup) : without (p :: r) x = if p.1 = x then r else p :: without r x:=by
  unfold without
  by_cases h : p.1 = x
  · rw [if_pos h,List.filter_cons_of_neg (by simpa using h)]
    exact without_of_not_mem r x (h ▸ (List.nodup_cons.mp nd).1)
  · rw [if_neg h,List.filter_cons_of_pos (by simpa using h)]
theorem RelKV.del {k : Kn} {x : Str} {es : List (Str × SV)} : ∀ {kvs : List (Str × Value)},RelKV k es kvs → (keyed es).Nodup → RelKV k (Mine.del x es) (without kvs x):=by
  induction es with
  | nil=>exact fun h _=>h.el0 rfl
  | cons p ps ih =>
    exact fun h nd=>by
      have hk:=h.keys
      refine h.el (P:=fun kvs=>keyed kvs = keyed (p :: ps) → RelKV k (Mine.del x (p :: ps)) (without kvs x)) (fun q r h1 h2 hk=>?_) hk
      rw [without_cons (hk ▸ nd),del_cons,h1.1]
      by_cases e : p.1 = x
      · rw [if_pos e,if_pos e]; exact h2
      · rw [if_neg e,if_neg e]; exact .cons h1 (ih h2 (List.nodup_cons.mp nd).2)
theorem put_new {α : Type} {x : Str} {v : α} {es : List (Str × α)} : lk x es = none → put x v es = es ++ [(x,v)]:=by
  induction es with
  | nil=>exact fun _=>rfl
  | cons p r ih =>
    rw [lk_cons,put_cons]
    by_cases e : p.1 = x
    · rw [if_pos e]; exact fun h=>nS h.symm
    · rw [if_neg e,if_neg e]; exact fun h=>congrArg (p :: ·) (ih h)
theorem lk_asE {x : Str} (es : List (Str × D)) : lk x (asE es) = (lk x es).map .d:=by
  induction es with
  | nil=>rfl
  | cons p r ih =>
    refine (lk_cons x (p.1,.d p.2) (asE r)).trans ?_
    rw [lk_cons,ih]
    by_cases e : p.1 = x
    · rw [if_pos e,if_pos e]; rfl
    · rw [if_neg e,if_neg e]
noncomputable def meId (me : Me) : String:=@Me.casesOn (fun _=>String) me "list.append" "list.extend" "list.pop" "list.reverse" "list.index" "dict.get" "dict.setdefault" "dict.pop" "tuple.index" "str.rjust" "str.join" "str.startswith" fun _=>""
section
variable {G : Cx} {c : Ct} {W : Wd} {σ : Sto} {E : Value → Shared → Prop} {s : Shared} {h : Heap} {n : Nat} {F : Facts}
theorem Fy.updF (Y : Fy G c W σ h) {i : Nat} {a : Addr} {ob : Obj} (hi : W.led[i]? = some (a,ob)) (n : NoCT ob) : UpdF a ob (c.all W) (fun o'=>c.all (W.set i (a,o'))) :=
  updF_pre (updF_led (Y.tupNe (Y.get hi) n) hi Y.S.nodup) _ fun p hp=>Y.AC p hp _ (List.mem_of_getElem? hi)
theorem Post.list {i : Nat} {D : Addr} {ws us : List Value} {m : Nat} {o : SO} {f : Array Value → Array Value} {Q : Value → Shared → Prop} {tk : Nat} {sv : SV} {v : Value} (k : Post G c W sv (σ.set i o) Q s) (Y : Fy G c W σ s.heap) (hi : W.led[i]? = some (D,listOf ws.toArray m)) (hf : f ws.toArray = us.toArray)
    (r : ∀ j,RelO G.V W.kn o (listOf us.toArray j)) (rv : RelV W.kn sv v) : Q v { s with heap:=s.heap.update D (Obj.mapSeq f),toks:=tk }:=by
  obtain ⟨n',hg⟩:=upd_list (Y.get hi) f
  exact k.upd Y hi (noCT_list _ _) (Heap.SameBut.update ..) hg (hf ▸ r n') rv
theorem append_s (i : Nat) (y : SV) : Sat (mAppend i y σ) (U2 (OpT G n (.builtin "list.append") [.ref i,y] σ)):=.aO fun o e1=>.oo fun o' ho=>.upd <| .ref e1 fun c W E Q s us a ob hA Y r hl ro hg k=>by
  obtain ⟨w,rfl,rw'⟩:=relVs_one r
  obtain ⟨ws,n,rfl,hz,rn⟩:=snocO_s rw' ho ro
  exact append_at hg (fun h' hs ho'=>k.upd Y hl (noCT_list _ _) hs ho' (by have:=rn (n + 1); rwa [← List.push_toArray] at this) relV_none) (by rw [List.size_toArray]; exact Nat.le_trans hz (by decide))
theorem not_long {a b : Nat} {c : Bool} (h : a + b ≤ 1000) : ¬ (c && Builtin.List.listTooLong (a + b)) = true:=fun q=>by
  have:=of_decide_eq_true (Bool.and_eq_true_iff.mp q).2
  exact absurd this (by have : (1000 : Nat) ≤ sizeLine:=by decide
                        omega)
theorem extend_s (i : Nat) (w : SV) : Sat (mExtend i w σ) (U2 (OpT G n (.builtin "list.extend") [.ref i,w] σ)):=by
  refine .vRef (P:=fun w=>U2 (OpT G n (.builtin "list.extend") [.ref i,w] σ)) fun j=>.gd fun _=>.aO fun x e1=>.aO fun y e2=>.oo fun o ho=>.upd <| .ref e1 fun c W E Q s us a ob hA Y r hl ro hg k=>?_
  obtain ⟨w,rfl,rw'⟩:=relVs_one r
  refine Y.ref (P:=fun w=>wpAny G.M c.A (call (.builtin "list.extend") [.ref a,w]) Q E s) e2 rw' fun a' ob' hl' ro' hg'=>?_
  obtain ⟨ws,us,n,n',rfl,rfl,hz,rn⟩:=catO_s ho ro ro'
  refine call_meets PySem.F.slot_list_extend ⟨_,hg,rfl⟩ PySem.F.entry_list_extend (PySem.F.args_list_extend_2 _ _) (PySem.AutoSeq1.list_extend_list_list_0 a ws.toArray n a' us.toArray n' (not_long (by rw [List.size_toArray,List.size_toArray]; exact hz)) ?_ ?_) ⟨hg,hg',k.list Y hl (us:=ws ++ us) (by simp) rn relV_none⟩
  · rw [List.size_toArray]; exact le1000 (Nat.le_trans (Nat.le_add_right _ _) hz)
  · rw [List.size_toArray,List.size_toArray]; exact Nat.le_succ_of_le (le1000 hz)
end
theorem getLast_split {α : Type} (xs : List α) : Sat xs.getLast? fun y=>xs = xs.dropLast ++ [y]:=fun y h=>by
  have hn : xs ≠ []:=fun q=>by subst q; exact nS h
  rw [List.getLast?_eq_some_getLast hn] at h
  exact (List.dropLast_concat_getLast hn).symm.trans (Option.some.inj h ▸ rfl)
theorem All2.split {α β : Type} {R : α → β → Prop} {y : α} {x : List α} : ∀ {ws : List β},All2 R (x ++ [y]) ws → ∃ us u,ws = us ++ [u] ∧ All2 R x us ∧ R y u:=by
  induction x with
  | nil=>exact fun h=>h.el fun u r h1 h2=>h2.el0 ⟨[],u,rfl,rfl,h1⟩
  | cons a x ih =>
    refine fun {ws} h=>All2.el (x:=x.append [y]) (P:=fun ws=>∃ us u,ws = us ++ [u] ∧ All2 R (a :: x) us ∧ R y u) h fun b r h1 h2=>?_
    obtain ⟨us,u,rfl,h3,h4⟩:=ih h2
    exact ⟨b :: us,u,rfl,.cons h1 h3,h4⟩
theorem size_app (a b : Str) : (a ++ b).length = a.length + b.length:=Array.size_append
theorem toL_app (a b : Str) : (a ++ b).cps.toList = a.cps.toList ++ b.cps.toList:=Array.toList_append
theorem toL_len (a : Str) : a.cps.toList.length = a.length:=Array.length_toList
theorem join_sum (sep : Str) (ts : List Str) : (ts.map (·.length)).sum ≤ (Str.join sep ts).length:=by
  induction ts with
  | nil=>exact Nat.zero_le _
  | cons a r ih =>
    cases r with
    | nil=>exact Nat.le_refl _
    | cons b r =>
      rw [show Str.join sep (a :: b :: r) = a ++ sep ++ Str.join sep (b :: r) from rfl,size_app,size_app,List.map_cons,List.sum_cons]
      exact Nat.add_le_add (Nat.le_add_right _ _) ih
theorem foldl_lens (c : Nat) (ts : List Str) : ∀ n : Nat,ts.foldl (fun a t=>a + t.length + c) n = n + (ts.map (·.length)).sum + ts.length * c:=by
  induction ts with
  | nil=>exact fun n=>by simp
  | cons t ts ih=>exact fun n=>by rw [List.foldl_cons,ih,List.map_cons,List.sum_cons,List.length_cons,Nat.succ_mul]; omega
noncomputable def JnR (sep : Str) (xs : List D) (l : List Nat) : Prop:=∃ ts : List Str,xs = ts.map .str ∧ l = (Str.join sep ts).cps.toList
theorem joinS_s (sep : Str) (xs : List D) : Sat (joinS sep.cps.toList xs) (JnR sep xs):=by
  induction xs with
  | nil=>exact .yes ⟨[],rfl,rfl⟩
  | cons x r ih =>
    refine .dK (P:=fun x=>JnR sep (x :: r)) (fun _=>.no) (fun s=>?_) fun _=>.no
    cases r with
    | nil=>exact .yes ⟨[s],rfl,rfl⟩
    | cons y r =>
      refine .om fun t ht=>?_
      obtain ⟨ts,h1,rfl⟩:=ih ht
      cases ts with
      | nil=>exact nomatch h1
      | cons t ts =>
        refine ⟨s :: t :: ts,by rw [h1]; rfl,?_⟩
        rw [K.app_eq,K.app_eq,show Str.join sep (s :: t :: ts) = s ++ sep ++ Str.join sep (t :: ts) from rfl,toL_app,toL_app,List.append_assoc]
theorem relDs_strs {tps : Led} {ts : List Str} : ∀ {ws : List Value},RelDs tps (ts.map .str) ws → ∃ lt : List (Str × Tok),ws = strValues lt ∧ lt.map (·.1) = ts:=by
  induction ts with
  | nil=>exact fun h=>h.el0 ⟨[],rfl,rfl⟩
  | cons t ts ih =>
    refine fun h=>h.el fun v r h1 h2=>?_
    obtain ⟨u,rfl⟩:=h1
    obtain ⟨lt,rfl,rfl⟩:=ih h2
    exact ⟨(t,u) :: lt,rfl,rfl⟩
theorem starts_iff {b : List Nat} : ∀ {a : List Nat},starts a b = true ↔ a.take b.length = b ∧ b.length ≤ a.length:=by
  induction b with
  | nil=>exact ⟨fun _=>⟨rfl,Nat.zero_le _⟩,fun _=>rfl⟩
  | cons b y ih =>
    intro a
    cases a with
    | nil=>exact ⟨fun h=>nT h,fun h=>absurd h.2 (Nat.not_succ_le_zero _)⟩
    | cons a x =>
      refine ⟨fun h=>?_,fun h=>?_⟩
      · have h:=bA_i h
        rw [Nat.eq_of_beq_eq_true h.1]
        exact ⟨congrArg (b :: ·) (ih.mp h.2).1,Nat.succ_le_succ (ih.mp h.2).2⟩
      · rw [List.length_cons,List.take_succ_cons] at h
        have e:=List.cons.inj h.1
        show bA (Nat.beq a b) (starts x y) = true
        rw [e.1,Nat.beq_refl]
        exact ih.mpr ⟨e.2,Nat.le_of_succ_le_succ h.2⟩
theorem starts_eq (x y : Str) : Txt.startswith x y = starts x.cps.toList y.cps.toList:=by
  show (decide (0 + y.length ≤ x.length) && Builtin.Str.subAt x y 0) = _
  rw [Bool.eq_iff_iff,starts_iff,Bool.and_eq_true,decide_eq_true_iff,toL_len,toL_len,Nat.zero_add]
  unfold Builtin.Str.subAt
  rw [beq_iff_eq]
  refine ⟨fun h=>⟨?_,h.1⟩,fun h=>⟨h.2,Array.toList_inj.mp ?_⟩⟩
  · have:=congrArg Array.toList h.2
    simpa using this
  · simpa using h.1
theorem rjust_is {x f : Str} {w : Int} {c : Nat} (hc : f.cps.toList = [c]) : Txt.rjustF x w (f.cps.getD 0 0) = ⟨(K.app (List.replicate (w.toNat - x.cps.toList.length) c) x.cps.toList).toArray⟩:=by
  rw [show f.cps = #[c] from Array.toList_inj.mp hc,K.app_eq,toL_len]
  show Txt.rjustF x w c = _
  unfold Txt.rjustF
  split
  · have : w.toNat - x.length = 0:=by omega
    rw [this]; simp
  · unfold Builtin.Str.padded
    congr 1
    apply Array.toList_inj.mp
    simp
theorem setdD_new {es : List (Str × D)} {x : Str} {v : D} (h : lk x es = none) : setdD es x v = es ++ [(x,v)]:=by
  unfold setdD
  rw [h]
section
variable {G : Cx} {c : Ct} {W : Wd} {σ : Sto} {E : Value → Shared → Prop} {s : Shared} {h : Heap} {n : Nat} {F : Facts}
theorem pop_s (i : Nat) : Sat (mPop i σ) (U2 (OpT G n (.builtin "list.pop") [.ref i] σ)):=.aDl fun xs e1=>.oS (getLast_split xs) fun y hy=>.glen fun hz=>.upd <| .ref e1 fun c W E Q s us a ob hA Y r hl ro hg k=>by
  cases (show us = [] from r)
  obtain ⟨ws,n,rfl,rd⟩:=ro
  have hw : ws.length = xs.length:=All2.length rd
  rw [hy] at rd
  obtain ⟨us,u,rfl,rd1,rd2⟩:=All2.split rd
  exact kl_pop (its:=(us ++ [u]).toArray) (p:=us) (y:=u) Y.F Y.N (kpa_last u us) (Y.updL (ob':=listOf us.toArray (n + 1)) hl (noCT_list _ _)) (by rw [hw]; exact Nat.le_trans hz (by decide)) fun h' F' N'=>k (Y.turn hl F' N' ⟨us,n + 1,rfl,rd1⟩) ((W.kn_set hl).symm ▸ rd2) (More.set hl)
theorem reverse_s (i : Nat) : Sat (mReverse i σ) (U2 (OpT G n (.builtin "list.reverse") [.ref i] σ)):=.aDl fun xs e1=>.glen fun hz=>.upd <| .ref e1 fun c W E Q s us a ob hA Y r hl ro hg k=>by
  cases (show us = [] from r)
  obtain ⟨ws,n,rfl,rd⟩:=ro
  exact call_meets PySem.F.slot_list_reverse ⟨_,hg,rfl⟩ PySem.F.entry_list_reverse (PySem.F.args_list_reverse_1 _) (PySem.AutoSeq1.list_reverse_list_0 a ws.toArray n (by rw [List.size_toArray,All2.length rd]; exact le1000 hz)) ⟨hg,k.list Y hl (us:=ws.reverse) (by simp) (fun j=>⟨_,j,rfl,rd.rev⟩) relV_none⟩
theorem lindex_s (fo : FactsOk G.V F) (v y : SV) : Sat (intA (idxL F σ y v) σ) (U2 (OpT G n (.builtin "list.index") [v,y] σ)):=.om fun j hj c W E Q s vals hA Y r k=>by
  obtain ⟨va,w,rfl,r1,r2⟩:=relVs_two r
  exact idxL_s hA fo Y r1 r2 hj fun t tk=>k.here Y relV_int
theorem tindex_s (v y : SV) : Sat (intA (idxS σ y v true) σ) (U2 (OpT G n (.builtin "tuple.index") [v,y] σ)):=.om fun j hj c W E Q s vals hA Y r k=>by
  obtain ⟨va,w,rfl,r1,r2⟩:=relVs_two r
  exact idxS_s hA true Y r1 r2 hj fun t tk=>k.here Y relV_int
theorem get_s (fo : FactsOk G.V F) (i : Nat) (w : SV) : Sat (mGet F i w σ) (U2 (OpT G n (.builtin "dict.get") [.ref i,w] σ)):=by
  have go : ∀ {x : Str} {o : SO} {es : List (Str × SV)} {y : SV},σ[i]? = some o → (∀ {k ob},RelO G.V k o ob → DiR G.V k es ob) → (lk x es).getD (.d .none) = y → OpT G n (.builtin "dict.get") [.ref i,.d (.str x)] σ y σ:=fun {x o es y} e1 hro hy=>.ref e1 fun c W E Q s us a ob hA Y r hl ro hg k=>by
    obtain ⟨w,rfl,t,rfl⟩:=relVs_one r
    obtain ⟨nd,kvs,hd,rk⟩:=relO_di (prog:=pw) (hro ro)
    have dd : s.heap.DictOf (PySem.strKind pw G.w) a kvs:=Heap.dictOf_iff.mpr ⟨_,hg,hd⟩
    refine call_meetsIn PySem.F.slot_dict_get dd.typeIs PySem.F.entry_dict_get (PySem.F.args_dict_get_2 _ _) (meets_dict_get (PySem.strKind pw G.w) a (strKind_is pw G.w x t) (Y.loAt hl)) ⟨_,dd.mapOf,k.here Y ?_⟩
    rw [← hy]
    cases q : lk x es with
    | none=>rw [rk.none q]; exact relV_none
    | some sv=>obtain ⟨w,hw,rw'⟩:=rk.some q; rw [hw]; exact rw'
  refine .vStr (P:=fun w=>U2 (OpT G n (.builtin "dict.get") [.ref i,w] σ)) fun x=>.aDx (fun es e1=>.yes (go e1 (fun r=>r) rfl)) (fun dx e1=>.om fun y hy=>go (es:=asE (denX G.V dx)) e1 (fun r=>r.2) ?_) fun _ _ _=>.no
  rw [lk_asE,getX_s fo _ _ hy]
  cases y <;> rfl
theorem setdef_s (fo : FactsOk G.V F) (i : Nat) (w y : SV) : Sat (mSetdef F i w y σ) (U2 (OpT G n (.builtin "dict.setdefault") [.ref i,w,y] σ)):=by
  refine .vStr (P:=fun w=>U2 (OpT G n (.builtin "dict.setdefault") [.ref i,w,y] σ)) fun x=>.aDx (fun _ _=>.no) (fun dx e1=>.gle fun hz=>.oo fun z hz2=>?_) fun _ _ _=>.no
  have hn:=getX_s fo _ _ hz2
  have q:=(lk_asE (x:=x) (denX G.V dx)).trans (congrArg (Option.map SV.d) hn)
  have hl2 : (denX G.V dx).length ≤ 100 + cntX dx → (asE (denX G.V dx)).length ≤ sizeLine:=fun h=>by rw [asE,List.length_map]; exact le1000 (Nat.le_trans h (Nat.le_trans (Nat.add_le_add_left hz 100) (by decide)))
  cases z with
  | some z =>
    refine .yes (.ref e1 fun c W E Q s us a ob hA Y r hl ro hg k=>?_)
    obtain ⟨w,u,rfl,⟨t,rfl⟩,r2⟩:=relVs_two r
    obtain ⟨nd,kvs,hd,rk⟩:=relO_di (prog:=pw) ro.2
    obtain ⟨w,hw,rw'⟩:=rk.some q
    exact kob_setdef_there Y.N (Fy.inN hl) hd (Y.loAt hl) (strKind_is pw G.w x t) (PySem.F.args_dict_setdefault_3 _ _ _) hw (by rw [rk.length]; exact hl2 ro.1) (k.here Y rw')
  | none =>
    refine .vD (P:=fun y=>U2 (OpT G n (.builtin "dict.setdefault") [.ref i,_,y] σ)) fun yd=>.upd (.ref e1 fun c W E Q s us a ob hA Y r hl ro hg k=>?_)
    obtain ⟨w,u,rfl,⟨t,rfl⟩,r2⟩:=relVs_two r
    obtain ⟨nd,kvs,hd,rk⟩:=relO_di (prog:=pw) ro.2
    have e2 : denX G.V (.setd dx x yd) = denX G.V dx ++ [(x,yd)]:=setdD_new hn
    have e3 : asE (denX G.V (.setd dx x yd)) = put x (.d yd) (asE (denX G.V dx)):=by
      rw [e2,put_new q,asE,List.map_append]
      rfl
    refine kob_setdef_new Y.F Y.N (Y.updF hl (noCT_dictOf hd)) hd (Y.loAt hl) (strKind_is pw G.w x t) (PySem.F.args_dict_setdefault_3 _ _ _) (rk.none q) (by rw [rk.length]; exact hl2 ro.1) fun h' o' F' N' hd'=>k (Y.turn hl F' N' ⟨?_,?_⟩) ((W.kn_set hl).symm ▸ r2) (More.set hl)
    · rw [e2,List.length_append]
      exact Nat.succ_le_succ ro.1
    · rw [e3]
      exact relO_of hd' (rk.put r2 nd)
theorem dpop_s (i : Nat) (w : SV) : Sat (mDpop i w σ) (U2 (OpT G n (.builtin "dict.pop") [.ref i,w] σ)):=by
  refine .vStr (P:=fun w=>U2 (OpT G n (.builtin "dict.pop") [.ref i,w] σ)) fun x=>.aDi fun es e1=>.glen fun hz=>.oo fun z hz2=>.upd <| .ref e1 fun c W E Q s us a ob hA Y r hl ro hg k=>?_
  obtain ⟨w,rfl,t,rfl⟩:=relVs_one r
  obtain ⟨nd,kvs,hd,rk⟩:=relO_di (prog:=pw) ro
  obtain ⟨w,hw,rw'⟩:=rk.some hz2
  exact kob_pop (more:=[]) Y.F Y.N (Y.updF hl (noCT_dictOf hd)) hd (strKind_is pw G.w x t) (.inl rfl) rfl (PySem.F.args_dict_pop_2 _ _) hw (by rw [rk.length]; exact le1000 hz) fun h' o' F' N' hd'=>k (Y.turn hl F' N' (relO_of hd' (rk.del nd))) ((W.kn_set hl).symm ▸ rw') (More.set hl)
theorem pad_ok {w : Int} (h : -1000 ≤ w ∧ w ≤ 1000) : PadOk w = true:=by
  unfold PadOk fitsSsize Builtin.Str.tooLong
  have hbig : (1000 : Nat) ≤ sizeLine:=by decide
  simp
  omega
theorem rjust_s (x : Str) (a b : SV) : Sat (mRjust x a b σ) (U2 (OpT G n (.builtin "str.rjust") [.d (.str x),a,b] σ)):=by
  refine .vInt (P:=fun a=>U2 (OpT G n (.builtin "str.rjust") [.d (.str x),a,b] σ)) fun w=>.vStr (P:=fun b=>U2 (OpT G n (.builtin "str.rjust") [.d (.str x),_,b] σ)) fun f=>fun r e=>?_
  refine Sat.l1 (P:=fun l r=>f.cps.toList = l → U2 (OpT G n (.builtin "str.rjust") [.d (.str x),.d (.int w),.d (.str f)] σ) r) (fun c=>.ite fun hw=>.yes fun hc c W E Q s vals hA Y r k=>?_) e rfl
  refine r.el (P:=fun vals=>wpAny G.M c.A (call (.builtin "str.rjust") vals) Q E s) fun v us r0 r=>?_
  obtain ⟨q,rfl⟩:=r0
  obtain ⟨_,_,rfl,⟨t,rfl⟩,⟨u,rfl⟩⟩:=relVs_two r
  exact rjust_fill (pad_ok hw) ((toL_len f).symm.trans (congrArg List.length hc)) fun t' kk=>by rw [rjust_is hc]; exact k.here Y relV_str
theorem join_s (x : Str) (w : SV) : Sat (mJoin x w σ) (U2 (OpT G n (.builtin "str.join") [.d (.str x),w] σ)):=by
  refine .vRef (P:=fun w=>U2 (OpT G n (.builtin "str.join") [.d (.str x),w] σ)) fun i=>.aDl fun xs e1=>.oS (joinS_s x xs) fun l hj=>.glen fun z1=>.glen fun z2=>.glen fun z3=>.yes fun c W E Q s vals hA Y r k=>?_
  obtain ⟨ts,rfl,rfl⟩:=hj
  obtain ⟨_,w,rfl,⟨q,rfl⟩,rw'⟩:=relVs_two r
  refine Y.ref (P:=fun w=>wpAny G.M c.A (call (.builtin "str.join") [_,w]) Q E s) e1 rw' fun a ob hl ro hg=>?_
  obtain ⟨ws,n,rfl,rd⟩:=ro
  obtain ⟨lt,rfl,hlt⟩:=relDs_strs rd
  refine SC.join (l:=lt) (texts:=ts) ⟨_,hg,rfl,n,rfl⟩ hlt ?_ fun t' kk=>k.here Y ⟨t',congrArg (Value.str · t') (StrLaws.glued_eq_join x ts)⟩
  rw [List.length_map] at z3
  have a4 : ts.length * x.length ≤ 100 * 10:=Nat.mul_le_mul z3 (toL_len x ▸ z2)
  have a1:=Nat.le_trans (join_sum x ts) (toL_len (Str.join x ts) ▸ z1)
  unfold JoinOk Builtin.Str.tooLong
  rw [List.foldl_toArray',foldl_lens]
  · have hbig : (5000 : Nat) ≤ sizeLine:=by decide
    simp only [Bool.not_eq_true',decide_eq_false_iff_not]
    omega
  · rfl
theorem starts_s (x : Str) (w : SV) : Sat (mStarts x w σ) (U2 (OpT G n (.builtin "str.startswith") [.d (.str x),w] σ)):=by
  refine .vStr (P:=fun w=>U2 (OpT G n (.builtin "str.startswith") [.d (.str x),w] σ)) fun p=>.yes fun c W E Q s vals hA Y r k=>?_
  obtain ⟨_,_,rfl,⟨q,rfl⟩,⟨q',rfl⟩⟩:=relVs_two r
  exact SC.startswith (starts_eq x p ▸ k.here Y relV_bool)
theorem bcall_s (fo : FactsOk G.V F) (me : Me) (v : SV) (args : List SV) : Sat (bcall F me v args σ) (U2 (OpT G n (.builtin (meId me)) (v :: args) σ)):=by
  cases me with
  | append=>exact .vRef (P:=fun v=>U2 (OpT G n (.builtin "list.append") (v :: args) σ)) fun i=>.l1 (P:=fun args=>U2 (OpT G n (.builtin "list.append") (.ref i :: args) σ)) fun y=>append_s i y
  | extend=>exact .vRef (P:=fun v=>U2 (OpT G n (.builtin "list.extend") (v :: args) σ)) fun i=>.l1 (P:=fun args=>U2 (OpT G n (.builtin "list.extend") (.ref i :: args) σ)) fun y=>extend_s i y
  | lpop=>exact .vRef (P:=fun v=>U2 (OpT G n (.builtin "list.pop") (v :: args) σ)) fun i=>.l0 (P:=fun args=>U2 (OpT G n (.builtin "list.pop") (.ref i :: args) σ)) (pop_s i)
  | reverse=>exact .vRef (P:=fun v=>U2 (OpT G n (.builtin "list.reverse") (v :: args) σ)) fun i=>.l0 (P:=fun args=>U2 (OpT G n (.builtin "list.reverse") (.ref i :: args) σ)) (reverse_s i)
  | lindex=>exact .l1 (P:=fun args=>U2 (OpT G n (.builtin "list.index") (v :: args) σ)) fun y=>lindex_s fo v y
  | get=>exact .vRef (P:=fun v=>U2 (OpT G n (.builtin "dict.get") (v :: args) σ)) fun i=>.l1 (P:=fun args=>U2 (OpT G n (.builtin "dict.get") (.ref i :: args) σ)) fun y=>get_s fo i y
  | setdefault=>exact .vRef (P:=fun v=>U2 (OpT G n (.builtin "dict.setdefault") (v :: args) σ)) fun i=>.l2 (P:=fun args=>U2 (OpT G n (.builtin "dict.setdefault") (.ref i :: args) σ)) fun w y=>setdef_s fo i w y
  | dpop=>exact .vRef (P:=fun v=>U2 (OpT G n (.builtin "dict.pop") (v :: args) σ)) fun i=>.l1 (P:=fun args=>U2 (OpT G n (.builtin "dict.pop") (.ref i :: args) σ)) fun y=>dpop_s i y
  | tindex=>exact .l1 (P:=fun args=>U2 (OpT G n (.builtin "tuple.index") (v :: args) σ)) fun y=>tindex_s v y
  | rjust=>exact .vStr (P:=fun v=>U2 (OpT G n (.builtin "str.rjust") (v :: args) σ)) fun x=>.l2 (P:=fun args=>U2 (OpT G n (.builtin "str.rjust") (_ :: args) σ)) fun a b=>rjust_s x a b
  | join=>exact .vStr (P:=fun v=>U2 (OpT G n (.builtin "str.join") (v :: args) σ)) fun x=>.l1 (P:=fun args=>U2 (OpT G n (.builtin "str.join") (_ :: args) σ)) fun a=>join_s x a
  | startswith=>exact .vStr (P:=fun v=>U2 (OpT G n (.builtin "str.startswith") (v :: args) σ)) fun x=>.l1 (P:=fun args=>U2 (OpT G n (.builtin "str.startswith") (_ :: args) σ)) fun a=>starts_s x a
  | own f=>exact .no
end
noncomputable def meVal (me : Me) : Value:=@Me.casesOn (fun _=>Value) me (.builtin "list.append") (.builtin "list.extend") (.builtin "list.pop") (.builtin "list.reverse") (.builtin "list.index") (.builtin "dict.get") (.builtin "dict.setdefault") (.builtin "dict.pop") (.builtin "tuple.index") (.builtin "str.rjust") (.builtin "str.join") (.builtin "str.startswith") fun f=>.ref f
noncomputable def MethsOk (K : Frag) : Prop:=∀ c x f,methAt c x = some f → plainGet K c x = true ∧ findIn K (.ref c) x = some (some (.ref f)) ∧ isFn K (.ref f) = true
structure KOk (G : Cx) : Prop where
  attr : AttrsOk G
  glob : ∀ p ∈ glT.toL,GlobOk G.K p.1 p.2
  cls : ClsOk G.K
  meths : MethsOk G.K
  keep : ∀ a,(fnAt a).isSome = true ∨ (initAt a).isSome = true → keepIn G.K (.ref a) = true
  made : ∀ a i,initAt a = some i → makesIn G.K a = true ∧ findIn G.K (.ref a) "__init__" = some (some (.ref i)) ∧ typeIn G.K (.ref i) = some (.type "function")
theorem Sat.lk {α : Type} {x : Str} {l : List (Str × α)} {P : Str → α → Prop} (h : ∀ p ∈ l,P p.1 p.2) : Sat (Mine.lk x l) (P x):=by
  induction l with
  | nil=>exact .no
  | cons p r ih=>exact .bI (fun q=>.yes (seq_eq q ▸ h p (.head _))) fun _=>ih fun q hq=>h q (.tail _ hq)
section
variable {G : Cx} {c : Ct} {W : Wd} {σ : Sto} {E : Value → Shared → Prop} {s : Shared}
noncomputable def MeT (G : Cx) (A : Around) (E : Value → Shared → Prop) (s : Shared) (va : Value) (x : Str) (me : Me) : Prop:=∀ ⦃pl : Sem Bool⦄ ⦃Q : Value × List Value → Shared → Prop⦄,Q (meVal me,[va]) s → wpAny G.M A (getMethod va x pl) Q E s
theorem two {α : Type} {p : α → Prop} {a : α} {l : List α} (h : p a) (k : ∀ x ∈ l,p x) : ∀ x ∈ a :: l,p x:=List.forall_mem_cons.mpr ⟨h,k⟩
theorem zero {α : Type} {p : α → Prop} : ∀ x ∈ ([] : List α),p x:=fun _ h=>absurd h List.not_mem_nil
theorem listMe_s {x : Str} {D : Addr} {ob : Obj} {p : List Value → Prop} (r : LsR ob p) (N : News c.h₀ c.L s.heap (c.all W)) (hm : (D,ob) ∈ c.all W) : Sat (lk x listT) (MeT G c.A E s (.ref D) x):=by
  obtain ⟨ws,n,rfl,_⟩:=r
  exact .lk <| two (fun pl Q h=>listMethod_K N hm PySem.F.slot_list_append PySem.F.type_list_append h) <| two (fun pl Q h=>listMethod_K N hm PySem.F.slot_list_extend PySem.F.type_list_extend h) <| two (fun pl Q h=>listMethod_K N hm PySem.F.slot_list_pop PySem.F.type_list_pop h) <| two (fun pl Q h=>listMethod_K N hm PySem.F.slot_list_reverse PySem.F.type_list_reverse h) <| two (fun pl Q h=>listMethod_K N hm PySem.F.slot_list_index PySem.F.type_list_index h) zero
theorem dictMe_s {x : Str} {k : Kn} {es : List (Str × SV)} {D : Addr} {ob : Obj} (r : DiR G.V k es ob) (N : News c.h₀ c.L s.heap (c.all W)) (hm : (D,ob) ∈ c.all W) : Sat (lk x dictT) (MeT G c.A E s (.ref D) x):=by
  obtain ⟨nd,kvs,hd,rk⟩:=relO_di (prog:=pw) r
  exact .lk <| two (fun pl Q h=>kob_method (knd:=PySem.strKind pw G.w) PySem.F.slot_dict_get PySem.F.type_dict_get N hm hd h) <| two (fun pl Q h=>kob_method (knd:=PySem.strKind pw G.w) PySem.F.slot_dict_setdefault PySem.F.type_dict_setdefault N hm hd h) <| two (fun pl Q h=>kob_method (knd:=PySem.strKind pw G.w) PySem.F.slot_dict_pop PySem.F.type_dict_pop N hm hd h) zero
theorem strMe_s {A : Around} {x y : Str} {t : Tok} : Sat (lk x strT) (MeT G A E s (.str y t) x):=.lk <| two (fun pl Q h=>GM.rjust h) <| two (fun pl Q h=>GM.join h) <| two (fun pl Q h=>GM.startswith h) zero
theorem tupMe_s {A : Around} {x : Str} {a : Addr} {vs : List Value} (m : s.heap.get? a = some (tupO vs)) : Sat (lk x tupT) (MeT G A E s (.ref a) x):=.lk <| two (fun pl Q h=>getMethod_builtin ⟨_,m,rfl⟩ PySem.F.plainAttrs_tuple PySem.F.slot_tuple_index PySem.F.type_tuple_index (fun a e=>by cases e; exact ⟨_,m,rfl⟩) h) zero
theorem methOf_s (mo : MethsOk G.K) {v : SV} {x : Str} {va : Value} (Y : Fy G c W σ s.heap) (rv : RelV W.kn v va) : Sat (methOf v x σ) (MeT G c.A E s va x):=fun me e=>by
  refine Sat.vK (P:=fun v me=>RelV W.kn v va → MeT G c.A E s va x me) (fun d=>.dK (P:=fun d me=>RelV W.kn (.d d) va → MeT G c.A E s va x me) (fun _=>.no) (fun y me e r=>r.s (P:=fun va=>MeT G c.A E s va x me) fun t=>strMe_s e)
    fun xs me e r=>relD_el (P:=fun va=>MeT G c.A E s va x me) r fun a vs m _=>tupMe_s (Y.getT m) e)
    (fun i=>.aO fun o e1 me e r=>?_) (fun _=>.no) e rv
  cases o with
  | dl xs=>exact Y.ref (P:=fun va=>MeT G c.A E s va x me) e1 r fun a ob hl ro hg=>listMe_s ro Y.N (Fy.inN hl) e
  | sy n al l=>exact Y.ref (P:=fun va=>MeT G c.A E s va x me) e1 r fun a ob hl ro hg=>listMe_s ro Y.N (Fy.inN hl) e
  | ls xs=>exact Y.ref (P:=fun va=>MeT G c.A E s va x me) e1 r fun a ob hl ro hg=>listMe_s ro Y.N (Fy.inN hl) e
  | bd j=>exact Y.ref (P:=fun va=>MeT G c.A E s va x me) e1 r fun a ob hl ro hg=>listMe_s ro Y.N (Fy.inN hl) e
  | di es=>exact Y.ref (P:=fun va=>MeT G c.A E s va x me) e1 r fun a ob hl ro hg=>dictMe_s ro Y.N (Fy.inN hl) e
  | sd dx=>exact Y.ref (P:=fun va=>MeT G c.A E s va x me) e1 r fun a ob hl ro hg=>dictMe_s ro.2 Y.N (Fy.inN hl) e
  | inst C d =>
    refine Sat.oo (P:=MeT G c.A E s va x) (fun f hf=>.aDi fun es e2=>.gd fun hn=>.yes fun pl Q h=>?_) e
    obtain ⟨a,dx,ds,n,rfl,hl,nd,re,I⟩:=Y.inst e1 e2 r
    obtain ⟨h1,h2,h3⟩:=mo C x f hf
    exact method_inst Y.F Y.Z.X I h1 h2 h3 (re.getNone (Option.isNone_iff_eq_none.mp hn)) h
  | any j=>exact nS e
  | as j rs=>exact nS e
end
noncomputable def KeepOk (G : Cx) (f : Value) : Prop:=∀ h,G.K.In h → ∃ k,(k = Keeper.frame ∨ k = Keeper.machine ∨ k = Keeper.boundFrame) ∧ Looks G.M h (keeperOf f) k
theorem keepOk_builtin {G : Cx} (id : String) : KeepOk G (.builtin id):=fun h _=>⟨.machine,.inr (.inl rfl),Looks.of_pure rfl⟩
theorem keepOk_type {G : Cx} (id : String) : KeepOk G (.type id):=fun h _=>⟨.machine,.inr (.inl rfl),Looks.of_pure rfl⟩
theorem keepOk_K {G : Cx} {f : Value} (hk : keepIn G.K f = true) : KeepOk G f:=fun h X=>keeps_K hk h X
theorem typeCall_weight (C : Addr) (vs : List Value) : (Code.builtin "type.__call__" ⟨.ref C :: vs,[]⟩).weight = 1:=by
  unfold Code.weight
  rfl
theorem typeCall_units (C : Addr) (vs : List Value) : (Code.builtin "type.__call__" ⟨.ref C :: vs,[]⟩).cUnits ≤ 3:=by
  unfold Code.cUnits
  exact Nat.le_of_ble_eq_true rfl
theorem typeCall_envs (C : Addr) (vs : List Value) : (Code.builtin "type.__call__" ⟨.ref C :: vs,[]⟩).envs = []:=by
  unfold Code.envs
  rfl
noncomputable def CallDom (R : Rec) : Prop:=∀ {a : Nat} {args : List SV} {σ : Sto} {r : SV × Sto},R.call a args σ = some r → (fnAt a).isSome = true
noncomputable abbrev tcCode (C : Addr) (vs : List Value) : Code:=.builtin "type.__call__" ⟨.ref C :: vs,[]⟩
noncomputable abbrev Ct.under (c : Ct) (C : Addr) (vs : List Value) : Ct:={ c with A:=c.A.under (tcCode C vs) }
section
variable {G : Cx} {n : Nat} {T : Tab} {R : Rec} {c : Ct} {W : Wd} {σ : Sto} {E : Value → Shared → Prop} {s : Shared} {h : Heap}
theorem room_under {A : Around} (hA : Room (n + 1) A) (C : Addr) (vs : List Value) : Room n (A.under (tcCode C vs)):=by
  refine ⟨hA.1,?_,?_⟩
  · show A.depth + _ + n ≤ 600
    rw [typeCall_weight,Nat.add_assoc,Nat.add_comm 1 n]
    exact hA.2.1
  · show A.units + _ + 20 * n ≤ 9000
    exact Nat.le_trans (Nat.le_trans (Nat.add_le_add_right (Nat.add_le_add_left (Nat.le_trans (typeCall_units C vs) (Nat.le_of_ble_eq_true rfl : 3 ≤ 20)) _) _) (Nat.le_of_eq (by rw [Nat.add_assoc,Nat.add_comm 20,Nat.mul_succ]))) hA.2.2
theorem Fz.under (Z : Fz G c) (C : Addr) (vs : List Value) : Fz G (c.under C vs) :=
  ⟨fun h' m' F'=>⟨by
      have:=(Z.B h' m' F').stack
      show pushEnvs ((tcCode C vs).envs) c.A.frames = some c.outer
      rw [typeCall_envs]; exact this,(Z.B h' m' F').stays,(Z.B h' m' F').frames⟩,Z.fro,Z.X,Z.T,Z.kept⟩
theorem Fy.under (Y : Fy G c W σ h) (C : Addr) (vs : List Value) : Fy G (c.under C vs) W σ h:=⟨Y.Z.under C vs,Y.F,Y.N,Y.lo,Y.AC,Y.S⟩
theorem Fy.unUnder {C : Addr} {vs : List Value} (Z : Fz G c) (Y' : Fy G (c.under C vs) W σ h) : Fy G c W σ h:=⟨Z,Y'.F,Y'.N,Y'.lo,Y'.AC,Y'.S⟩
theorem make_s (ko : KOk G) (fok : ∀ a,FnOk G n a (R.call a)) {a i : Nat} (hi : initAt a = some i) (args : List SV) : Sat (ob (R.call i (.ref (K.len σ + 1) :: args) (K.app σ [.di [],.inst a (K.len σ)])) fun v σ'=>gd (isNoneV v) (some (SV.ref (K.len σ + 1),σ'))) (U2 (OpT G (n + 1) (.ref a) args σ)):=by
  refine .ob fun v σ' ec=>.gd fun hv=>.yes fun c W E Q s vals hA Y ra k=>?_
  rw [K.len_eq,K.app_eq] at ec
  rw [K.len_eq] at k
  obtain ⟨h1,h2,h3⟩:=ko.made a i hi
  refine wpAny_call (make_K Y.F Y.N (Y.Z.X.keeps Y.F.keep) h1 h2 h3 fun x dx h' F' N' l1 l2=>?_)
  have n1:=N' _ (.head _)
  have n2:=N' _ (.tail _ (.head _))
  have Y1 : Fy G c (W.app (dx,emptyDict)) (σ ++ [.di []]) h':=Y.news F' (fun p hp=>N' p (.tail _ hp)) (fun p hp=>Nat.ne_of_lt (l1 p hp)) (Y.notMods ko.cls n2.2.2) ⟨List.nodup_nil,[],0,rfl,rfl⟩
  have hd : (W.app (dx,emptyDict)).led[σ.length]? = some (dx,emptyDict):=by rw [← Y.S.rel.length]; exact List.getElem?_concat_length
  have N3 : News c.h₀ c.L h' ((x,instObj a dx) :: c.all (W.app (dx,emptyDict))):=fun p hp=>by
    cases hp with
    | head=>exact n1
    | tail _ hp=>exact Y1.N p hp
  have hlt : ∀ p ∈ c.all (W.app (dx,emptyDict)),p.1 ≠ x:=fun p hp=>by
    rcases mem3.mp hp with hp | hp | hp
    · exact Nat.ne_of_lt (Nat.lt_trans (l1 p (mem3.mpr (.inl hp))) l2)
    · rcases List.mem_append.mp hp with hp | hp
      · exact Nat.ne_of_lt (Nat.lt_trans (l1 p (mem3.mpr (.inr (.inl hp)))) l2)
      · rw [List.mem_singleton.mp hp]; exact Nat.ne_of_lt l2
    · exact Nat.ne_of_lt (Nat.lt_trans (l1 p (mem3.mpr (.inr (.inr hp)))) l2)
  have Y2 : Fy G c ((W.app (dx,emptyDict)).app (x,instObj a dx)) ((σ ++ [.di []]) ++ [.inst a σ.length]) h' :=
    Y1.news F' N3 hlt (Y.notMods ko.cls n1.2.2) ⟨dx,by show (List.map _ _)[_]? = _; rw [List.getElem?_map,hd]; rfl,rfl⟩
  have m2 : More W ((W.app (dx,emptyDict)).app (x,instObj a dx)):=(More.app _ _).trans (More.app _ _)
  have rx : RelV ((W.app (dx,emptyDict)).app (x,instObj a dx)).kn (.ref (σ.length + 1)) (.ref x):=by
    have:=relV_new (a:=x) (ob:=instObj a dx) Y1.S
    rwa [List.length_append] at this
  rw [List.append_assoc] at Y2
  refine fok i _ _ ec (C:=InitBack x _) (s:={ s with heap:=h' }) (room_under hA a vals) (Y2.under a vals) (.cons rx (ra.mono m2)) fun v h'' tk W' Y3 rv m3=>?_
  exact ⟨isNone_v hv rv ▸ rfl,k (Y3.unUnder Y.Z) (rx.mono m3) (m2.trans m3)⟩
structure CalT (G : Cx) (n : Nat) (f : Value) (args : List SV) (σ : Sto) (sv : SV) (σ' : Sto) : Prop where
  op : OpT G n f args σ sv σ'
  keep : KeepOk G f
theorem callV_s (ko : KOk G) (fo : FactsOk G.V T.F) (fok : ∀ a,FnOk G n a (R.call a)) (dom : CallDom R) (f : SV) (args : List SV) : Sat (callV T R f args σ) (U2 fun sv σ'=>∀ ⦃k vf⦄,RelV k f vf → CalT G (n + 1) vf args σ sv σ'):=by
  cases f with
  | top a =>
    show Sat (@Option.rec Nat (fun _=>An) _ _ (initAt a)) _
    have kp:=fun h=>keepOk_K (ko.keep a h)
    cases hi : initAt a with
    | none=>exact fun r e k vf rf=>(show vf = .ref a from rf) ▸ ⟨fun c W E Q s vals hA Y ra k=>(fok a args σ e).op hA.dn Y ra k,kp (.inl (dom e))⟩
    | some i=>exact (make_s ko fok hi args).mono fun r h k vf rf=>(show vf = .ref a from rf) ▸ ⟨h,kp (.inr (hi ▸ rfl))⟩
  | ty t=>exact (tyf_s ko.cls t args).mono fun r h k vf rf=>(show vf = _ from rf) ▸ ⟨h,keepOk_type _⟩
  | bi b=>exact (bfn_s fo ko.cls b args).mono fun r h k vf rf=>(show vf = _ from rf) ▸ ⟨h,keepOk_builtin _⟩
  | _=>exact .no
end
inductive CallF : Expr → Prop
  | attr (o x p) : CallF (.Attribute o x p)
  | fn (f : Expr) (h : ∀ (γ : Type) (g : Expr → Str → Pos → γ) (d : γ),eAttr f g d = d) (q : ∀ (args : List Expr) (pos : Pos) (env : Env),eval (.Call f args [] pos) env = (do callWith pos (← eval f env) [] (backTo pos (starEach args env)) (backToKw pos (keywordEach [] env)))) : CallF f
structure ExprF (e : Expr) : Prop where
  star : known e = true → ∀ (r : List Expr) (env : Env),starEach (e :: r) env = (false,eval e env) :: starEach r env
  mark : known e = true → ∀ (op : CmpOp) (t : Sem Value),markedBehindIn op e t = t
  base : baseE e = true → ∀ (x : Str) (env : Env) (w : Sem Value),attributeBase e x env w = w
  sub : ∀ o k,∃ l,subscripted e false o k = operate l (getItem o k)
  fn : CallF e
  name : Sat (kName (kindOf e)) fun x=>∃ p,e = .Name x p
  tup : Sat (kTup (kindOf e)) fun es=>∃ k p,e = .Tuple es k p
  call : Sat (kCall (kindOf e)) fun q=>e = .Call q.1 q.2.1 q.2.2.1 q.2.2.2
  str : Sat (kStr (kindOf e)) fun x=>∃ k p,e = .Constant (.str x) k p
  int : Sat (kInt (kindOf e)) fun x=>∃ k p,e = .Constant (.int x) k p
  un : Sat (kUn (kindOf e)) fun q=>∃ p,e = .UnaryOp q.1 q.2 p
  join : Sat (kJoin (kindOf e)) fun es=>∃ p,e = .JoinedStr es p
  fmt : Sat (kFmt (kindOf e)) fun q=>∃ p,e = .FormattedValue q.1 q.2.1 q.2.2 p
theorem sub_slice {lo hi st : Option Expr} {p : Pos} (o k : Value) : ∃ l,subscripted (.Slice lo hi st p) false o k = operate l (getItem o k):=by induction st <;> exact ⟨_,rfl⟩
theorem base_call {f : Expr} {args : List Expr} {kws : List Keyword} {p : Pos} (h : baseE (.Call f args kws p) = true) (x : Str) (env : Env) (w : Sem Value) : attributeBase (.Call f args kws p) x env w = w:=by
  revert h
  refine @Expr.casesOn (fun f=>baseE (.Call f args kws p) = true → attributeBase (.Call f args kws p) x env w = w) f ?_ ?_ ?_ ?_ ?_ ?_ ?_ ?_ ?_ ?_ ?_ ?_ ?_ ?_ ?_ ?_ ?_ ?_ ?_ ?_ ?_ ?_ ?_ ?_ ?_ ?_ ?_ <;> intros
  all_goals first | rfl | (rename_i h; induction args <;> induction kws <;> first | rfl | exact nT h)
theorem const_str {c : Const} {k : Nat} {p : Pos} : Sat (kStr (.const c)) fun x=>∃ kk q,Expr.Constant c k p = .Constant (.str x) kk q:=by
  induction c with
  | str x=>exact .yes ⟨k,p,rfl⟩
  | _=>exact .no
theorem const_int {c : Const} {k : Nat} {p : Pos} : Sat (kInt (.const c)) fun x=>∃ kk q,Expr.Constant c k p = .Constant (.int x) kk q:=by
  induction c with
  | int x=>exact .yes ⟨k,p,rfl⟩
  | _=>exact .no
theorem exprF (e : Expr) : ExprF e:=by
  refine @Expr.casesOn (fun e=>ExprF e) e ?_ ?_ ?_ ?_ ?_ ?_ ?_ ?_ ?_ ?_ ?_ ?_ ?_ ?_ ?_ ?_ ?_ ?_ ?_ ?_ ?_ ?_ ?_ ?_ ?_ ?_ ?_ <;> intros
  all_goals constructor
  all_goals first | exact .no | exact fun _ _ _=>rfl | exact fun _ _ _ _=>rfl | exact fun _ _=>⟨_,rfl⟩ | exact .fn _ (fun _ _ _=>rfl) fun _ _ _=>rfl | exact .attr _ _ _ | exact sub_slice | exact base_call | exact nT | exact .yes rfl | exact .yes ⟨_,rfl⟩ | exact .yes ⟨_,_,rfl⟩ | exact const_str | exact const_int
section
variable {G : Cx} {n : Nat} {R : Rec} {c : Ct} {env : Env} {sc : Scope} {cm : Str → Option Value} {W : Wd} {ρ : Rho} {σ σ₁ σ₂ σ₃ σ' : Sto} {E : Value → Shared → Prop} {s : Shared} {e : Expr} {v sv : SV}
theorem EvT.up (h : EvT G n sc e ρ σ sv σ') : EvT G (n + 1) sc e ρ σ sv σ':=fun _ _ _ _ _ _ _ hA X k=>h hA.dn X k
theorem EvOk.up {ev : Scope → Expr → Rho → Sto → Option (SV × Sto)} (h : EvOk G n ev) : EvOk G (n + 1) ev:=fun sc e ρ σ=>(h sc e ρ σ).mono fun _ h=>h.up
theorem TstOk.up {ev : Scope → Expr → Rho → Sto → Option (Bool × Sto)} (h : TstOk G n ev) : TstOk G (n + 1) ev:=fun sc e ρ σ=>(h sc e ρ σ).mono fun _ h _ _ _ _ _ _ _ hA X k=>h hA.dn X k
theorem EvT.at (h : EvT G n sc e ρ σ v σ₁) (hA : Room n c.A) (X : Fx G c env sc cm W ρ σ s.heap) {Q : Value → Shared → Prop} (k : ∀ ⦃va h tk W'⦄,Fx G c env sc cm W' ρ σ₁ h → RelV W'.kn v va → More W W' → Q va { s with heap:=h,toks:=tk }) : wpAny G.M c.A (eval e env) Q E s:=h hA X fun _ _ _ _ Y r m=>k (X.back Y m) r m
theorem EvT.const {cc : Const} {kk : Nat} {p : Pos} (σ : Sto) : Sat (constV cc) fun v=>EvT G n sc (.Constant cc kk p) ρ σ v σ:=by
  induction cc with
  | none=>exact .yes fun c env cm W E Q s hA X k=>wpAny_Constant_none (k.here X.Y (tk:=s.toks) relV_none)
  | bool b=>exact .yes fun c env cm W E Q s hA X k=>wpAny_Constant_bool (k.here X.Y (tk:=s.toks) relV_bool)
  | int i=>exact .yes fun c env cm W E Q s hA X k=>wpAny_Constant_int (k.here X.Y relV_int)
  | str x=>exact .yes fun c env cm W E Q s hA X k=>wpAny_Constant_str (k.here X.Y relV_str)
  | _=>exact .no
theorem EvT.name (ko : KOk G) {x : Str} {p : Pos} : Sat (aName sc x ρ σ) (U2 (EvT G n sc (.Name x p) ρ σ)):=.gd fun hd=>.om fun v hv c env cm W E Q s hA X k=>X.name ko.glob hd hv fun v r=>k.here X.Y (tk:=s.toks) r
theorem EvT.attr (ok : AttrsOk G) {x : Str} {y : SV} {p : Pos} (hb : baseE e = true) (h : EvT G n sc e ρ σ v σ₁) (hy : getA v x σ₁ = some y) : EvT G n sc (.Attribute e x p) ρ σ y σ₁:=fun c env cm W E Q s hA X k=>by
  rw [arm_eval_Attribute,(exprF e).base hb]
  exact wpAny_bind (h.at hA X fun va h₁ tk₁ W₁ X₁ r₁ m₁=>wpAny_bind (wpAny_standAt (wpAny_bind (wpAny_holding (getA_s ok (s:={ s with heap:=h₁,toks:=tk₁ }) X₁.Y r₁ hy fun w tk rw'=>wpAny_bind (wpAny_letTemporaryGo (wpAny_pure (k X₁.Y rw' m₁))))))))
structure EvsT (G : Cx) (n : Nat) (sc : Scope) (ρ : Rho) (es : List Expr) (σ : Sto) (vs : List SV) (σ' : Sto) : Prop where
  all : ∀ e ∈ es,known e = true
  nil0 : es = [] → vs = [] ∧ σ' = σ
  run : ∀ ⦃c : Ct⦄ ⦃env : Env⦄ ⦃cm : Str → Option Value⦄ ⦃W : Wd⦄ ⦃E : Value → Shared → Prop⦄ ⦃Q : List Value → Shared → Prop⦄ ⦃s : Shared⦄ ⦃pos : Pos⦄,Room n c.A → Fx G c env sc cm W ρ σ s.heap → (∀ ⦃ws h tk W'⦄,Fx G c env sc cm W' ρ σ' h → RelVs W'.kn vs ws → More W W' → Q ws { s with heap:=h,toks:=tk }) →
    wpAny G.M c.A (spliced (backTo pos (starEach es env))) Q E s
theorem EvsT.nil : EvsT G n sc ρ [] σ [] σ:=⟨fun _ h=>absurd h List.not_mem_nil,fun _=>⟨rfl,rfl⟩,fun c env cm W E Q s pos hA X k=>wpAny_pure (k (tk:=s.toks) X rfl (Kn.Le.refl _))⟩
theorem EvsT.cons {es : List Expr} {vs : List SV} (he : known e = true) (h : EvT G n sc e ρ σ v σ₁) (t : EvsT G n sc ρ es σ₁ vs σ₂) : EvsT G n sc ρ (e :: es) σ (v :: vs) σ₂:=⟨two he t.all,fun h=>(nomatch h),fun c env cm W E Q s pos hA X k=>by
  rw [(exprF e).star he]
  show wpAny G.M c.A (spliced ((false,eval e env) :: backTo pos (starEach es env))) Q E s
  unfold spliced
  exact wpAny_bind (h.at hA X fun w h₁ tk₁ W₁ X₁ r₁ m₁=>wpAny_bind (wpAny_pure (wpAny_bind (wpAny_holding (t.run (s:={ s with heap:=h₁,toks:=tk₁ }) hA X₁ fun ws h₂ tk₂ W₂ X₂ r₂ m₂=>wpAny_pure (k X₂ (.cons (r₁.mono m₂) r₂) (m₁.trans m₂)))))))⟩
theorem evL_s (ok : EvOk G n R.ev) (es : List Expr) : ∀ σ,Sat (evL R sc ρ es σ) (U2 (EvsT G n sc ρ es σ)):=by
  induction es with
  | nil=>exact fun σ=>.yes .nil
  | cons e es ih=>exact fun σ=>.gd fun he=>.bS (ok sc e ρ σ) fun v σ₁ h=>.bS (ih σ₁) fun vs σ₂ t=>.yes (.cons he h t)
theorem stars_any {es : List Expr} {pos : Pos} (h : ∀ e ∈ es,known e = true) : (backTo pos (starEach es env)).any (·.1) = false ∧ (backTo pos (starEach es env)).all (!·.1) = true:=by
  induction es with
  | nil=>exact ⟨rfl,rfl⟩
  | cons e es ih =>
    have ih:=ih fun e he=>h e (.tail _ he)
    rw [(exprF e).star (h e (.head _))]
    exact ⟨congrArg (false || ·) ih.1,congrArg (true && ·) ih.2⟩
theorem EvsT.call {es : List Expr} {vs : List SV} (t : EvsT G n sc ρ es σ vs σ') (hA : Room n c.A) {f : Value} {first : List Value} {pos pos' : Pos} {Q : Value → Shared → Prop} (hk : KeepOk G f) (X : Fx G c env sc cm W ρ σ s.heap)
    (k : ∀ ⦃ws h tk W'⦄,Fx G c env sc cm W' ρ σ' h → RelVs W'.kn vs ws → More W W' → wpAny G.M c.A (PySem.call f (first ++ ws)) Q E { s with heap:=h,toks:=tk }) : wpAny G.M c.A (callWith pos' f first (backTo pos (starEach es env)) []) Q E s:=by
  refine callWith_of (P:=G.K.In) (by rw [(stars_any t.all).1]; rfl) hk ?_
  have main:=t.run (E:=E) (pos:=pos) hA (Q:=fun ws s₁=>G.K.In s₁.heap ∧ wpAny G.M c.A (PySem.call f (first ++ ws)) Q E s₁) X fun ws h' tk W' X' r m=>⟨X'.Y.Z.X.keeps X'.Y.F.keep,k X' r m⟩
  cases es with
  | nil =>
    obtain ⟨rfl,rfl⟩:=t.nil0 rfl
    exact evalArgs_nil3 ⟨X.Y.Z.X.keeps X.Y.F.keep,k (tk:=s.toks) X rfl (Kn.Le.refl _)⟩
  | cons e es =>
    rw [(exprF e).star (t.all e (.head _))] at main ⊢
    exact evalArgs_plain main
theorem EvT.meth (ko : KOk G) {x : Str} {ap pos : Pos} {es : List Expr} {vs : List SV} {me : Me} (hb : baseE e = true) (hl : Nat.beq ap.endLine pos.line = true) (hn : es.length ≤ 29) (h : EvT G n sc e ρ σ v σ₁) (hm : methOf v x σ₁ = some me) (t : EvsT G n sc ρ es σ₁ vs σ₂) (hk : KeepOk G (meVal me)) (op : OpT G n (meVal me) (v :: vs) σ₂ sv σ') :
    EvT G n sc (.Call (.Attribute e x ap) es [] pos) ρ σ sv σ':=fun c env cm W E Q s hA X k=>by
  rw [arm_eval_Call,(exprF e).base hb]
  refine wpAny_bind (h.at hA X fun va h₁ tk₁ W₁ X₁ r₁ m₁=>wpAny_bind (wpAny_standAt ?_))
  show wpAny _ _ (methodCall e x ap pos env va (es.length + 0) (backTo pos (starEach es env)) []) Q E _
  have hform : methodCallForm (es.length + 0) (backTo pos (starEach es env)) [] = true:=by
    unfold methodCallForm
    rw [(stars_any t.all).2]
    have : es.length < 30:=Nat.lt_succ_of_le hn
    simp [this]
  unfold methodCall
  rw [hform]
  refine wpAny_bind (wpAny_holding ?_)
  show wpAny _ _ (getMethod va x _) _ _ _
  refine methOf_s ko.meths (s:={ s with heap:=h₁,toks:=tk₁ }) X₁.Y r₁ hm ?_
  show wpAny _ _ (methodCallPos true e env ap pos >>= fun p=>callWith p (meVal me) [va] _ _) _ _ _
  have hpos : methodCallPos true e env ap pos = pure pos:=by
    unfold methodCallPos
    rw [show (ap.endLine == pos.line) = true from beq_iff_eq.mpr (Nat.eq_of_beq_eq_true hl)]
    rfl
  rw [hpos]
  exact wpAny_bind (wpAny_pure (t.call (s:={ s with heap:=h₁,toks:=tk₁ }) hA hk X₁ fun ws h' tk W' X' r m=>op hA (s:={ s with heap:=h',toks:=tk }) X'.Y (.cons (r₁.mono m) r) (k.tr (m₁.trans m))))
theorem EvT.fn {f : Expr} {pos : Pos} {es : List Expr} {vs : List SV} (hf : ∀ env,eval (.Call f es [] pos) env = (do callWith pos (← eval f env) [] (backTo pos (starEach es env)) (backToKw pos (keywordEach [] env)))) (h : EvT G n sc f ρ σ v σ₁) (t : EvsT G n sc ρ es σ₁ vs σ₂) (op : ∀ ⦃k vf⦄,RelV k v vf → CalT G n vf vs σ₂ sv σ') :
    EvT G n sc (.Call f es [] pos) ρ σ sv σ':=fun c env cm W E Q s hA X k=>by
  rw [hf]
  exact wpAny_bind (h.at hA X fun vf h₁ tk₁ W₁ X₁ r₁ m₁=>t.call (s:={ s with heap:=h₁,toks:=tk₁ }) (first:=[]) hA (op r₁).keep X₁ fun ws h' tk W' X' r m=>(op r₁).op hA (s:={ s with heap:=h',toks:=tk }) X'.Y r (k.tr (m₁.trans m)))
theorem EvT.cmp {F : Facts} (fo : FactsOk G.V F) {l r : Expr} {op : CmpOp} {pos : Pos} {a b : SV} {z : Bool} (hr : known r = true) (ha : EvT G n sc l ρ σ a σ₁) (hb : EvT G n sc r ρ σ₁ b σ₂) (hz : cmp F op a b σ₂ = some z) : EvT G n sc (.Compare l [op] [r] pos) ρ σ (boolV z) σ₂ ∧ TstT G n sc (.Compare l [op] [r] pos) ρ σ z σ₂:=by
  refine ⟨fun c env cm W E Q s hA X k=>?_,fun c env cm W E Q s hA X k=>?_⟩
  · rw [arm_eval_Compare]
    refine wpAny_bind (ha.at hA X fun va h₁ tk₁ W₁ X₁ r₁ m₁=>?_)
    show wpAny _ _ (do
      let rv ← holding [va] (markedBehindIn op r (eval r env))
      standAt pos
      operate [va,rv] (compareOp op va rv)) Q E _
    rw [(exprF r).mark hr]
    exact wpAny_bind (wpAny_holding (hb.at hA (s:={ s with heap:=h₁,toks:=tk₁ }) X₁ fun vb h₂ tk₂ W₂ X₂ r₂ m₂=>wpAny_bind (wpAny_standAt (wpAny_operating (cmp_s hA fo op a b (s:={ s with heap:=h₂,toks:=tk₂ }) X₂.Y (r₁.mono m₂) r₂ hz fun tk=>k X₂.Y relV_bool (m₁.trans m₂))))))
  · rw [arm_isTrue_Compare]
    refine wpAny_bind (ha.at hA X fun va h₁ tk₁ W₁ X₁ r₁ m₁=>?_)
    show wpAny _ _ (do
      let rv ← holding [va] (markedBehindIn op r (eval r env))
      standAt pos
      let c ← operate [va,rv] (compareOp op va rv)
      holding [c] (truthy c)) Q E _
    rw [(exprF r).mark hr]
    exact wpAny_bind (wpAny_holding (hb.at hA (s:={ s with heap:=h₁,toks:=tk₁ }) X₁ fun vb h₂ tk₂ W₂ X₂ r₂ m₂=>wpAny_bind (wpAny_standAt (wpAny_bind (wpAny_operating (cmp_s hA fo op a b (s:={ s with heap:=h₂,toks:=tk₂ }) X₂.Y (r₁.mono m₂) r₂ hz fun tk=>wpAny_holding (truth_s (k:=W₂.kn) (s:={ s with heap:=h₂,toks:=tk }) (boolV z) rfl relV_bool fun tk'=>k X₂.Y (m₁.trans m₂))))))))
noncomputable def BoolT (G : Cx) (n : Nat) (sc : Scope) (op : BoolOp) (ρ : Rho) (es : List Expr) (σ : Sto) (sv : SV) (σ' : Sto) : Prop :=
  ∀ ⦃c : Ct⦄ ⦃env : Env⦄ ⦃cm : Str → Option Value⦄ ⦃W : Wd⦄ ⦃E Q : Value → Shared → Prop⦄ ⦃s : Shared⦄ ⦃pos : Pos⦄,Room n c.A → Fx G c env sc cm W ρ σ s.heap → Post G c W sv σ' Q s → wpAny G.M c.A (boolOp pos op (evalEach es env)) Q E s
theorem boolT_cons {op : BoolOp} {e' : Expr} {es : List Expr} {b : Bool} (h : EvT G n sc e ρ σ v σ₁) (hb : truth v = some b) (t : bI b (BoolOp.casesOn op true false) (BoolOp.casesOn op false true) = true → BoolT G n sc op ρ (e' :: es) σ₁ sv σ') (u : bI b (BoolOp.casesOn op true false) (BoolOp.casesOn op false true) = false → sv = v ∧ σ' = σ₁) : BoolT G n sc op ρ (e :: e' :: es) σ sv σ':=fun c env cm W E Q s pos hA X k=>by
  show wpAny G.M c.A (do
      let v ← eval e env
      standAt pos
      let t ← holding [v] (truthy v)
      match op,t with
      | .And,false | .Or,true=>pure v
      | _,_=>boolOp pos op (evalEach (e' :: es) env)) Q E s
  refine wpAny_bind (h.at hA X fun w h₁ tk₁ W₁ X₁ r₁ m₁=>wpAny_bind (wpAny_standAt (wpAny_bind (wpAny_holding (truth_s (s:={ s with heap:=h₁,toks:=tk₁ }) v hb r₁ fun tk₂=>?_)))))
  induction op <;> induction b
  · obtain ⟨rfl,rfl⟩:=u rfl; exact wpAny_pure (k X₁.Y r₁ m₁)
  · exact t rfl hA (s:={ s with heap:=h₁,toks:=tk₂ }) X₁ (k.tr m₁)
  · exact t rfl hA (s:={ s with heap:=h₁,toks:=tk₂ }) X₁ (k.tr m₁)
  · obtain ⟨rfl,rfl⟩:=u rfl; exact wpAny_pure (k X₁.Y r₁ m₁)
theorem evBool_s (ok : EvOk G n R.ev) (op : BoolOp) (es : List Expr) : ∀ σ,Sat (evBool R sc op ρ es σ) (U2 (BoolT G n sc op ρ es σ)):=by
  induction es with
  | nil=>exact fun _=>.no
  | cons e es ih =>
    intro σ
    cases es with
    | nil=>exact (ok sc e ρ σ).mono fun r h c env cm W E Q s pos hA X k=>h hA X k
    | cons e' es =>
      show Sat (ob (R.ev sc e ρ σ) fun v σ=>oo (truth v) fun b=>@BoolOp.casesOn (fun _=>An) op (bI b (evBool R sc op ρ (e' :: es) σ) (some (v,σ))) (bI b (some (v,σ)) (evBool R sc op ρ (e' :: es) σ))) _
      refine .bS (ok sc e ρ σ) fun v σ₁ h=>.oo fun b hb=>?_
      induction op <;> induction b
      · exact .yes (boolT_cons h hb (fun q=>nT q) fun _=>⟨rfl,rfl⟩)
      · exact (ih σ₁).mono fun r t=>boolT_cons h hb (fun _=>t) fun q=>nT q.symm
      · exact (ih σ₁).mono fun r t=>boolT_cons h hb (fun _=>t) fun q=>nT q.symm
      · exact .yes (boolT_cons h hb (fun q=>nT q) fun _=>⟨rfl,rfl⟩)
end
section
variable {G : Cx} {A : Around} {env : Env} {E Q : Value → Shared → Prop} {s : Shared} {v i : Expr} {pos : Pos}
theorem subItem (h : wpAny G.M A (eval v env) (fun o s₁=>wpAny G.M A (eval i env) (fun k s₂=>ItemOn G.M A E o k Q s₂) E s₁) E s) : wpAny G.M A (eval (.Subscript v i pos) env) Q E s:=by
  refine Subscript_ (wpAny_mono h (fun o s₁ h₁=>wpAny_mono h₁ (fun k s₂ h₂=>?_) fun _ _ x=>x) fun _ _ x=>x)
  obtain ⟨T,id,hl,hT,hg⟩:=h₂
  obtain ⟨l,hs⟩:=(exprF i).sub o k
  unfold subscriptTail
  refine wpAny_bind ?_
  rw [getitemInPython_of_ne hT.not_modules]
  refine wpAny_bind (wpAny_specialOf hT hl ?_)
  have fin : wpAny G.M A (subscripted i false o k) (fun r s₃=>wpAny G.M A (letTemporaryGo v o r >>= fun _=>pure r) Q E s₃) E s₂:=by
    rw [hs]
    exact wpAny_operating (wpAny_mono hg (fun r s₃ h₃=>wpAny_bind (wpAny_letTemporaryGo (wpAny_pure h₃))) fun _ _ x=>x)
  first
    | exact wpAny_pure (wpAny_bind fin)
    | exact wpAny_bind (wpAny_pure (wpAny_bind fin))
    | exact wpAny_bind fin
theorem part_eval {e : Option Expr} (h : wpAny G.M A (evalPart e env) Q E s) : wpAny G.M A (valueOrNone (evalOpt e env)) Q E s:=by induction e <;> exact h
theorem slice_eval {lo hi st : Option Expr} {p : Pos}
    (h : wpAny G.M A (evalPart lo env) (fun l s₁=>wpAny G.M A (evalPart hi env) (fun u s₂=>wpAny G.M A (evalPart st env) (fun k s₃=>Q (.ref s₃.heap.objs.size) { s₃ with heap:=s₃.heap.push (sliceO l u k) }) E s₂) E s₁) E s) :
    wpAny G.M A (eval (.Slice lo hi st p) env) Q E s:=by
  rw [arm_eval_Slice]
  exact wpAny_bind (part_eval (wpAny_mono h (fun l s₁ h₁=>wpAny_bind (wpAny_holding (part_eval (wpAny_mono h₁ (fun u s₂ h₂=>wpAny_bind (wpAny_holding (part_eval (wpAny_mono h₂ (fun k s₃ h₃=>wpAny_newObj_type h₃) fun _ _ x=>x)))) fun _ _ x=>x)))) fun _ _ x=>x))
end
section
variable {G : Cx} {n : Nat} {R : Rec} {c : Ct} {env : Env} {sc : Scope} {cm : Str → Option Value} {W : Wd} {ρ : Rho} {σ σ₁ σ₂ σ₃ σ' : Sto} {E : Value → Shared → Prop} {s : Shared} {e : Expr} {v sv : SV}
theorem EvT.neg {i : Int} {p : Pos} (h : EvT G n sc e ρ σ (.d (.int i)) σ₁) : EvT G n sc (.UnaryOp .USub e p) ρ σ (.d (.int (-i))) σ₁:=fun c env cm W E Q s hA X k=>by
  rw [arm_eval_UnaryOp]
  refine wpAny_bind (h.at hA X fun va h₁ tk₁ W₁ X₁ r₁ m₁=>wpAny_bind (wpAny_standAt (wpAny_holding ?_)))
  obtain ⟨t,rfl⟩:=r₁
  exact PySem.P.neg_int (k X₁.Y relV_int m₁)
theorem EvT.ite {t a b : Expr} {z : Bool} {p : Pos} (ht : TstT G n sc t ρ σ z σ₁) (h : EvT G n sc (bI z a b) ρ σ₁ sv σ') : EvT G n sc (.IfExp t a b p) ρ σ sv σ':=fun c env cm W E Q s hA X k =>
  wpAny_IfExp (ht hA X fun h₁ tk₁ W₁ Y₁ m₁=>by induction z <;> exact h hA (s:={ s with heap:=h₁,toks:=tk₁ }) (X.back Y₁ m₁) (k.tr m₁))
theorem EvT.bin {l r : Expr} {op : Operator} {p : Pos} {a b : SV} (ha : EvT G n sc l ρ σ a σ₁) (hb : EvT G n sc r ρ σ₁ b σ₂) (h : BinT G op a b σ₂ sv σ') : EvT G n sc (.BinOp l op r p) ρ σ sv σ':=fun c env cm W E Q s hA X k=>by
  rw [arm_eval_BinOp]
  exact wpAny_bind (ha.at hA X fun va h₁ tk₁ W₁ X₁ r₁ m₁=>wpAny_bind (wpAny_holding (hb.at hA (s:={ s with heap:=h₁,toks:=tk₁ }) X₁ fun vb h₂ tk₂ W₂ X₂ r₂ m₂=>wpAny_bind (wpAny_standAt (wpAny_operating (h (s:={ s with heap:=h₂,toks:=tk₂ }) X₂.Y (r₁.mono m₂) r₂ (k.tr (m₁.trans m₂))))))))
theorem EvT.sub {F : Facts} (fo : FactsOk G.V F) {i : Expr} {p : Pos} {a b y : SV} (ha : EvT G n sc e ρ σ a σ₁) (hb : EvT G n sc i ρ σ₁ b σ₂) (hy : sub F a b σ₂ = some y) : EvT G n sc (.Subscript e i p) ρ σ y σ₂:=fun c env cm W E Q s hA X k =>
  subItem (ha.at hA X fun va h₁ tk₁ W₁ X₁ r₁ m₁=>hb.at hA (s:={ s with heap:=h₁,toks:=tk₁ }) X₁ fun vb h₂ tk₂ W₂ X₂ r₂ m₂=>sub_s fo (s:={ s with heap:=h₂,toks:=tk₂ }) X₂.Y (r₁.mono m₂) r₂ hy fun w tk rw'=>k X₂.Y rw' (m₁.trans m₂))
noncomputable def PartT (G : Cx) (n : Nat) (sc : Scope) (ρ : Rho) (σ : Sto) (o : Option Expr) (i : Option Int) (σ' : Sto) : Prop:=∀ ⦃c : Ct⦄ ⦃env : Env⦄ ⦃cm : Str → Option Value⦄ ⦃W : Wd⦄ ⦃E Q : Value → Shared → Prop⦄ ⦃s : Shared⦄,Room n c.A → Fx G c env sc cm W ρ σ s.heap →
  (∀ ⦃v h tk W'⦄,IsPart v i → Fx G c env sc cm W' ρ σ' h → More W W' → Q v { s with heap:=h,toks:=tk }) → wpAny G.M c.A (evalPart o env) Q E s
theorem PartT.none : PartT G n sc ρ σ none none σ:=fun c env cm W E Q s hA X k=>wpAny_pure (k (tk:=s.toks) .none X (Kn.Le.refl _))
theorem PartT.some {i : Int} (h : EvT G n sc e ρ σ (.d (.int i)) σ₁) : PartT G n sc ρ σ (some e) (some i) σ₁:=fun c env cm W E Q s hA X k=>h.at hA X fun va h₁ tk₁ W₁ X₁ r₁ m₁=>r₁.i (P:=fun va=>Q va _) fun t=>k (.int _ _) X₁ m₁
theorem evOptInt_s (ok : EvOk G n R.ev) (o : Option Expr) : Sat (evOptInt R sc ρ σ o) (U2 (PartT G n sc ρ σ o)):=by
  induction o with
  | none=>exact .yes PartT.none
  | some e=>exact .bS (ok sc e ρ σ) fun v σ₁ h r e'=>Sat.vInt (P:=fun v r=>EvT G n sc e ρ σ v σ₁ → U2 (PartT G n sc ρ σ (some e)) r) (fun i=>.yes (r:=(some i,σ₁)) PartT.some) e' h
theorem EvT.slice {lo hi st : Option Expr} {l u k : Option Int} {p q : Pos} (ha : EvT G n sc e ρ σ v σ₁) (hl : PartT G n sc ρ σ₁ lo l σ₂) (hu : PartT G n sc ρ σ₂ hi u σ₃) (hk : PartT G n sc ρ σ₃ st k σ₃) (h : SlT G v l u k σ₃ sv σ') : EvT G n sc (.Subscript e (.Slice lo hi st p) q) ρ σ sv σ':=fun c env cm W E Q s hA X k =>
  subItem (ha.at hA X fun va h₁ tk₁ W₁ X₁ r₁ m₁=>slice_eval (hl hA (s:={ s with heap:=h₁,toks:=tk₁ }) X₁ fun vl h₂ tk₂ W₂ pl X₂ m₂=>hu hA (s:={ s with heap:=h₂,toks:=tk₂ }) X₂ fun vu h₃ tk₃ W₃ pu X₃ m₃=>hk hA (s:={ s with heap:=h₃,toks:=tk₃ }) X₃ fun vk h₄ tk₄ W₄ pk X₄ m₄ =>
    h (s:={ s with heap:=h₄,toks:=tk₄ }) X₄.Y (((r₁.mono m₂).mono m₃).mono m₄) pl pu pk (k.tr (((m₁.trans m₂).trans m₃).trans m₄))))
theorem isM1_i (x : Expr) (h : isM1 x = true) : ∃ k p q,x = .UnaryOp .USub (.Constant (.int 1) k p) q:=by
  unfold isM1 at h
  cases e : kUn (kindOf x) with
  | none=>rw [e] at h; exact nT h
  | some u =>
    obtain ⟨op,y⟩:=u
    obtain ⟨q,hx⟩:=(exprF x).un e
    rw [e] at h
    cases e' : kInt (kindOf y) with
    | none=>dsimp only at h; rw [e'] at h; induction op <;> exact nT h
    | some i =>
      obtain ⟨k,p,rfl⟩:=(exprF y).int e'
      dsimp only at h
      rw [e'] at h
      induction op with
      | USub=>exact ⟨k,p,q,by rw [hx,show i = 1 from of_decide_eq_true h]⟩
      | _=>exact nT h
theorem aSlice_s (ok : EvOk G n R.ev) {e : Expr} {lo hi st : Option Expr} {p q : Pos} : Sat (aSlice R sc e lo hi st ρ σ) (U2 (EvT G n sc (.Subscript e (.Slice lo hi st p) q) ρ σ)):=by
  refine .bS (ok sc e ρ σ) fun v σ₁ h=>?_
  induction st with
  | none=>exact .bS (evOptInt_s ok lo) fun l σ₂ h2=>.bS (evOptInt_s ok hi) fun u σ₃ h3=>(slice_s v l u).mono fun r h4=>h.slice h2 h3 .none h4
  | some x =>
    refine .gd fun h1=>.gd fun h2=>.gd fun h3=>?_
    obtain ⟨k₁,p₁,q₁,rfl⟩:=isM1_i x h1
    cases Option.isNone_iff_eq_none.mp h2
    cases Option.isNone_iff_eq_none.mp h3
    exact (sliceR_s v).mono fun r h4=>h.slice .none .none (.some (EvT.neg (EvT.const σ₁ rfl))) h4
theorem EvT.list {es : List Expr} {vs : List SV} {p : Pos} (t : EvsT G n sc ρ es σ vs σ₁) (hz : vs.length ≤ 1000) : EvT G n sc (.List es p) ρ σ (.ref σ₁.length) (σ₁ ++ [mkL vs]):=fun c env cm W E Q s hA X k=>by
  rw [arm_eval_List]
  exact wpAny_bind (wpAny_standAt (wpAny_bind (t.run hA X fun ws h₁ tk₁ W₁ X₁ r₁ m₁=>Fy.newList (s:={ s with heap:=h₁,toks:=tk₁ }) X₁.Y hz r₁ (k.tr m₁))))
theorem EvT.tuple {es : List Expr} {vs : List SV} {kk : Nat} {p : Pos} (t : EvsT G n sc ρ es σ vs σ₁) (hz : vs.length ≤ 1000) : EvT G n sc (.Tuple es kk p) ρ σ (mkT vs) σ₁:=fun c env cm W E Q s hA X k=>by
  rw [arm_eval_Tuple]
  exact wpAny_bind (wpAny_standAt (wpAny_bind (t.run hA X fun ws h₁ tk₁ W₁ X₁ r₁ m₁=>Fy.newTuple (s:={ s with heap:=h₁,toks:=tk₁ }) X₁.Y hz r₁ (k.tr m₁))))
end
noncomputable def HexR (i : Int) (x : Str) : Prop:=∀ t u : Tok,Gives (Builtin.«int.__format__» ⟨[.int i t,.str ⟨#[120]⟩ u],[]⟩) (.str x) ∧ x.length ≤ 2
theorem hex_nn : ∀ n ∈ [0,1,2,3,4,5,6,7,8,9],HexR (.ofNat n) ⟨#[48 + n]⟩ :=
  two (fun t u=>⟨.of_eq rfl,Nat.le_succ 1⟩) <| two (fun t u=>⟨.of_eq rfl,Nat.le_succ 1⟩) <| two (fun t u=>⟨.of_eq rfl,Nat.le_succ 1⟩) <| two (fun t u=>⟨.of_eq rfl,Nat.le_succ 1⟩) <| two (fun t u=>⟨.of_eq rfl,Nat.le_succ 1⟩) <| two (fun t u=>⟨.of_eq rfl,Nat.le_succ 1⟩) <| two (fun t u=>⟨.of_eq rfl,Nat.le_succ 1⟩) <| two (fun t u=>⟨.of_eq rfl,Nat.le_succ 1⟩) <| two (fun t u=>⟨.of_eq rfl,Nat.le_succ 1⟩) <| two (fun t u=>⟨.of_eq rfl,Nat.le_succ 1⟩) zero
theorem hex_neg : ∀ n ∈ [0,1,2,3,4,5,6,7,8],HexR (.negSucc n) ⟨#[45,48 + (n + 1)]⟩ :=
  two (fun t u=>⟨.of_eq rfl,Nat.le_refl 2⟩) <| two (fun t u=>⟨.of_eq rfl,Nat.le_refl 2⟩) <| two (fun t u=>⟨.of_eq rfl,Nat.le_refl 2⟩) <| two (fun t u=>⟨.of_eq rfl,Nat.le_refl 2⟩) <| two (fun t u=>⟨.of_eq rfl,Nat.le_refl 2⟩) <| two (fun t u=>⟨.of_eq rfl,Nat.le_refl 2⟩) <| two (fun t u=>⟨.of_eq rfl,Nat.le_refl 2⟩) <| two (fun t u=>⟨.of_eq rfl,Nat.le_refl 2⟩) <| two (fun t u=>⟨.of_eq rfl,Nat.le_refl 2⟩) zero
theorem fmtX_s (i : Int) : Sat (fmtX i) (HexR i):=fun x e=>by
  unfold fmtX at e
  cases i with
  | ofNat n =>
    split at e
    · rename_i h
      exact Option.some.inj e ▸ hex_nn n (List.mem_range.mpr (Nat.lt_succ_of_le (Int.ofNat_le.mp h.2)))
    · rw [if_neg fun h=>absurd h.2 (Int.not_lt.mpr (Int.natCast_nonneg n))] at e
      exact nS e
  | negSucc n =>
    rw [if_neg fun h=>absurd h.1 (Int.not_le.mpr (Int.negSucc_lt_zero n))] at e
    split at e
    · rename_i h
      exact Option.some.inj e ▸ hex_neg n (List.mem_range.mpr (Int.ofNat_lt.mp (by have:=Int.neg_le_neg h.1; exact Int.lt_of_lt_of_le (Int.ofNat_lt.mpr (Nat.lt_succ_self n)) this)))
    · exact nS e
theorem str_app (a : Str) (l : List Nat) : a ++ (⟨l.toArray⟩ : Str) = ⟨(a.cps.toList ++ l).toArray⟩:=congrArg Str.mk (Array.toList_inj.mp (by simp))
theorem toL_eta (x : Str) : (⟨x.cps.toList.toArray⟩ : Str) = x:=congrArg Str.mk Array.toArray_toList
section
variable {G : Cx} {n : Nat} {R : Rec} {c : Ct} {env : Env} {sc : Scope} {cm : Str → Option Value} {W : Wd} {ρ : Rho} {σ σ₁ σ' : Sto} {E : Value → Shared → Prop} {s : Shared} {e : Expr} {v sv : SV}
noncomputable abbrev txV (l : List Nat) : SV:=.d (.str ⟨l.toArray⟩)
noncomputable def PtT (G : Cx) (n : Nat) (sc : Scope) (ρ : Rho) (σ : Sto) (p : Expr) (l : List Nat) (σ' : Sto) : Prop:=EvT G n sc p ρ σ (txV l) σ'
theorem ptT_fmt {f : Str} {k : Nat} {p₁ p₂ p₃ : Pos} {i : Int} {x : Str} (hf : seq f (Str.ofString "x") = true) (h : EvT G n sc e ρ σ (.d (.int i)) σ₁) (hx : HexR i x) : PtT G n sc ρ σ (.FormattedValue e (-1) (some (.JoinedStr [.Constant (.str f) k p₁] p₂)) p₃) x.cps.toList σ₁:=fun c env cm W E Q s hA X kk=>by
  have ef : f = ⟨#[120]⟩:=seq_eq hf
  refine wpAny_FormattedValue_spec (h.at hA X fun va h₁ tk₁ W₁ X₁ r₁ m₁=>?_)
  obtain ⟨t,rfl⟩:=r₁
  refine wpAny_JoinedStr_one (wpAny_Constant_str ⟨f,_,rfl,?_⟩)
  rw [ef]
  refine wpAny_formatField_spec (by decide) (fun s'=>typeIs_int s' i t) F.slot_int_format F.entry_int_format F.args_int_format_2 (fun u=>(hx t u).1) ?_ (by decide) (Nat.le_trans (hx t 0).2 (by decide))
  exact kk X₁.Y (by unfold txV; rw [toL_eta]; exact relV_str) m₁
theorem evFmt_s (ok : EvOk G n R.ev) {e : Expr} {f : Str} {k : Nat} {p₁ p₂ p₃ : Pos} : Sat (evFmt R sc ρ σ e f) (U2 (PtT G n sc ρ σ (.FormattedValue e (-1) (some (.JoinedStr [.Constant (.str f) k p₁] p₂)) p₃))) :=
  .gd fun hf=>.bS (ok sc e ρ σ) fun v σ₁ h r e'=>Sat.vInt (P:=fun v r=>EvT G n sc e ρ σ v σ₁ → U2 (PtT G n sc ρ σ (.FormattedValue e (-1) (some (.JoinedStr [.Constant (.str f) k p₁] p₂)) p₃)) r) (fun i=>.om fun x hx h=>ptT_fmt hf h (fmtX_s i hx)) e' h
theorem evPart_s (ok : EvOk G n R.ev) (p : Expr) : Sat (evPart R sc ρ p σ) (U2 (PtT G n sc ρ σ p)):=by
  refine .oe (.om fun x hx=>?_) (.oo fun q hq=>.gd fun h1=>.oo fun s hs=>.oo fun ps hps=>fun r e=>Sat.l1 (P:=fun ps r=>kJoin (kindOf s) = some ps → U2 (PtT G n sc ρ σ p) r) (fun t=>.oo fun f hf=>?_) e hps)
  · obtain ⟨k,pp,rfl⟩:=(exprF p).str hx
    exact fun c env cm W E Q s hA X k=>wpAny_Constant_str (k.here X.Y (by unfold txV; rw [toL_eta]; exact relV_str))
  · obtain ⟨e,c,s'⟩:=q
    obtain ⟨pp,rfl⟩:=(exprF p).fmt hq
    cases (show s' = some s from hs)
    cases of_decide_eq_true h1
    obtain ⟨k,p₁,rfl⟩:=(exprF t).str hf
    intro r e' hj
    obtain ⟨p₂,rfl⟩:=(exprF s).join hj
    exact evFmt_s ok e'
noncomputable def PtsT (G : Cx) (n : Nat) (sc : Scope) (ρ : Rho) (ps : List Expr) (σ : Sto) (l : List Nat) (σ' : Sto) : Prop:=∀ ⦃c : Ct⦄ ⦃env : Env⦄ ⦃cm : Str → Option Value⦄ ⦃W : Wd⦄ ⦃E Q : Value → Shared → Prop⦄ ⦃s : Shared⦄ ⦃out : List Nat⦄,out.length + l.length ≤ 1000 → Room n c.A → Fx G c env sc cm W ρ σ s.heap → Post G c W (txV (out ++ l)) σ' Q s → wpAny G.M c.A (joinParts ⟨out.toArray⟩ (evalEach ps env)) Q E s
theorem evParts_s (ok : EvOk G n R.ev) (ps : List Expr) : ∀ σ,Sat (evParts R sc ρ ps σ) (U2 (PtsT G n sc ρ ps σ)):=by
  induction ps with
  | nil=>exact fun σ=>.yes fun c env cm W E Q s out hz hA X k=>joinParts_nil (k.here X.Y (by rw [List.append_nil]; exact relV_str)) (by rw [show Str.length ⟨out.toArray⟩ = out.length from List.size_toArray ..]; exact le1000 hz)
  | cons p ps ih =>
    intro σ
    show Sat (ob (evPart R sc ρ p σ) fun t σ=>ob (evParts R sc ρ ps σ) fun u σ=>some (K.app t u,σ)) _
    refine .bS (evPart_s ok p) fun t σ₁ h=>.bS (ih σ₁) fun u σ₂ hu=>.yes fun c env cm W E Q s out hz hA X k=>?_
    have hz : out.length + (K.app t u).length ≤ 1000:=hz
    rw [K.app_eq,List.length_append,← Nat.add_assoc] at hz
    show wpAny _ _ (joinParts ⟨out.toArray⟩ (eval p env :: evalEach ps env)) _ _ _
    refine joinParts_cons (h.at hA X fun va h₁ tk₁ W₁ X₁ r₁ m₁=>?_)
    obtain ⟨t',rfl⟩:=r₁
    dsimp only
    rw [str_app]
    dsimp only
    refine ⟨by rw [show Str.length ⟨(out ++ t).toArray⟩ = (out ++ t).length from List.size_toArray ..,List.length_append]; exact le1000 (Nat.le_trans (Nat.le_add_right _ _) hz),hu (s:={ s with heap:=h₁,toks:=tk₁ }) (by rw [List.length_append]; exact hz) hA X₁ ?_⟩
    rw [List.append_assoc,← K.app_eq t]
    exact k.tr m₁
theorem aJoined_s (ok : EvOk G n R.ev) (ps : List Expr) {p : Pos} : Sat (aJoined R sc ps ρ σ) (U2 (EvT G n sc (.JoinedStr ps p) ρ σ)):=by
  refine .ob fun l σ' e=>.glen fun hz=>.yes fun c env cm W E Q s hA X k=>?_
  have go : wpAny G.M c.A (joinParts ⟨#[]⟩ (evalEach ps env)) Q E s:=evParts_s ok ps σ e (out:=[]) (by rw [List.length_nil,Nat.zero_add]; exact hz) hA X k
  cases ps with
  | nil=>rw [arm_eval_JoinedStr]; exact go
  | cons q ps =>
    cases ps with
    | cons q' ps=>rw [arm_eval_JoinedStr]; exact go
    | nil =>
      obtain ⟨y,σ₁,e1,e⟩:=ob_i (show (ob (evPart R sc ρ q σ) fun t σ=>some (K.app t [],σ)) = some (l,σ') from e)
      obtain ⟨rfl,rfl⟩:=sp (show some (K.app y [],σ₁) = some (l,σ') from e)
      have h : EvT G n sc q ρ σ (txV y) σ₁:=evPart_s ok q e1
      refine wpAny_JoinedStr_one (h.at hA X fun va h₁ tk₁ W₁ X₁ r₁ m₁=>?_)
      obtain ⟨t,rfl⟩:=r₁
      exact k X₁.Y (by rw [K.app_eq,List.append_nil]; exact relV_str) m₁
end
section
variable {G : Cx} {n : Nat} {R : Rec} {c : Ct} {env : Env} {sc : Scope} {cm : Str → Option Value} {W : Wd} {ρ : Rho} {σ σ₁ σ₂ σ₃ σ' : Sto} {E : Value → Shared → Prop} {s : Shared} {h : Heap} {e : Expr} {v sv : SV}
noncomputable abbrev Ct.cell (c : Ct) (p : Addr × Obj) : Ct:={ c with cells:=p :: c.cells }
theorem Fy.keepC (Y : Fy G c W σ h) (ob : Obj) (hf : ob.isFreed = false) : Fy G (c.cell (h.objs.size,ob)) W σ (h.push ob) :=
  ⟨⟨Y.Z.B,Y.Z.fro,Y.Z.X,Y.Z.T,fun p hp=>.tail _ (Y.Z.kept p hp)⟩,Y.F.push ob,Y.N.push Y.F ob hf,Y.lo,fun p hp q hq=>by
    cases hp with
    | head=>exact Ne.symm (Y.ne q (mem3.mpr (.inr (.inl hq))))
    | tail _ hp=>exact Y.AC p hp q hq,Y.S⟩
theorem Fy.uncell {d : Addr} {ob ob' : Obj} (co : ClsOk G.K) (Z : Fz G c) (Y : Fy G (c.cell (d,ob)) W σ h) (hd : ∀ p ∈ c.cells,p.1 ≠ d) (hn : NoCT ob) {h' : Heap} {o : SO} (hs : Heap.SameBut d h h') (ho : h'.get? d = some ob') (r : RelO G.V W.kn o ob') :
    Fy G c (W.app (d,ob')) (σ ++ [o]) h':=by
  have hD:=Y.N (d,ob) (.head _)
  have ap : ∀ p ∈ c.all W,p.1 ≠ d:=fun p hp=>by
    rcases mem3.mp hp with hp | hp | hp
    · exact hd p hp
    · exact fun e=>Y.AC (d,ob) (.head _) p hp e.symm
    · exact Y.tupNe hD.1 hn p hp
  have Y0 : Fy G c W σ h:=⟨Z,Y.F,fun p hp=>Y.N p (.tail _ hp),Y.lo,fun p hp=>Y.AC p (.tail _ hp),Y.S⟩
  exact Y0.news (Y.F.change hs hD.2.1 hD.2.2) (News.setHead Y.N ap hs ho) ap (Y0.notMods co hD.2.2) r
noncomputable def pairsOf (env : Env) (pos : Pos) : List (Option Expr) → List Expr → List (Sem Value × Sem Value):=@List.rec (Option Expr) (fun _=>List Expr → List (Sem Value × Sem Value)) (fun _=>[]) fun k _ ih es=>@Option.rec Expr (fun _=>List (Sem Value × Sem Value)) [] (fun k=>@List.casesOn Expr (fun _=>List (Sem Value × Sem Value)) es [] fun e es=>(eval k env,do let x ← eval e env; standAt pos; pure x) :: ih es) k
structure PrsT (G : Cx) (n : Nat) (sc : Scope) (ρ : Rho) (ks : List (Option Expr)) (es : List Expr) (σ : Sto) (l : List (Str × SV)) (σ' : Sto) : Prop where
  shape : ∀ (env : Env) (pos : Pos),(evalEachOpt ks env).zip ((evalEach es env).map fun v=>do let x ← v; standAt pos; pure x) = (pairsOf env pos ks es).map (fun p=>(some p.1,p.2)) ∧ (pairsOf env pos ks es).length = l.length
  nil0 : l = [] → ks = [] ∧ es = [] ∧ σ' = σ
  run : ∀ ⦃c : Ct⦄ ⦃env : Env⦄ ⦃cm : Str → Option Value⦄ ⦃W : Wd⦄ ⦃E : Value → Shared → Prop⦄ ⦃Q : List (Value × Value) → Shared → Prop⦄ ⦃s : Shared⦄ ⦃pos : Pos⦄,Room n c.A → Fx G c env sc cm W ρ σ s.heap →
    (∀ ⦃ws kvs h tk W'⦄,Fx G c env sc cm W' ρ σ' h → Carries (PySem.strKind pw G.w) ws kvs → RelKV W'.kn l kvs → More W W' → Q ws { s with heap:=h,toks:=tk }) → wpAny G.M c.A (evalPairs (pairsOf env pos ks es)) Q E s
theorem PrsT.cons {k : Expr} {ks : List (Option Expr)} {es : List Expr} {x : Str} {l : List (Str × SV)} (hk : EvT G n sc k ρ σ (.d (.str x)) σ₁) (h : EvT G n sc e ρ σ₁ v σ₂) (t : PrsT G n sc ρ ks es σ₂ l σ₃) : PrsT G n sc ρ (some k :: ks) (e :: es) σ ((x,v) :: l) σ₃ :=
  ⟨fun env pos=>⟨congrArg (List.cons _) (t.shape env pos).1,congrArg (· + 1) (t.shape env pos).2⟩,fun h=>(nomatch h),fun c env cm W E Q s pos hA X kk=>by
    refine evalPairs_cons (hk.at hA X fun kv h₁ tk₁ W₁ X₁ r₁ m₁=>wpAny_bind (h.at hA (s:={ s with heap:=h₁,toks:=tk₁ }) X₁ fun vv h₂ tk₂ W₂ X₂ r₂ m₂=>wpAny_bind (wpAny_standAt (wpAny_pure (t.run hA (s:={ s with heap:=h₂,toks:=tk₂ }) X₂ fun ws kvs h₃ tk₃ W₃ X₃ hc hr m₃=>?_)))))
    obtain ⟨t,rfl⟩:=r₁
    exact kk (kvs:=(x,vv) :: kvs) X₃ ⟨strKind_is pw G.w x t,rfl,hc⟩ (.cons ⟨rfl,r₂.mono m₃⟩ hr) ((m₁.trans m₂).trans m₃)⟩
theorem evPairs_s (ok : EvOk G n R.ev) (ks : List (Option Expr)) : ∀ (es : List Expr) (σ : Sto),Sat (evPairs R sc ρ ks es σ) (U2 (PrsT G n sc ρ ks es σ)):=by
  induction ks with
  | nil=>exact fun es σ=>.l0 (P:=fun es=>U2 (PrsT G n sc ρ [] es σ)) (.yes ⟨fun _ _=>⟨rfl,rfl⟩,fun _=>⟨rfl,rfl,rfl⟩,fun c env cm W E Q s pos hA X k=>evalPairs_nil (k (ws:=[]) (kvs:=[]) (tk:=s.toks) X trivial rfl (Kn.Le.refl _))⟩)
  | cons k ks ih =>
    intro es σ
    show Sat (oo k fun k=>lc es fun e es=>ob (R.ev sc k ρ σ) fun x σ=>vStr x fun x=>ob (R.ev sc e ρ σ) fun v σ=>ob (evPairs R sc ρ ks es σ) fun r σ=>some ((x,v) :: r,σ)) _
    refine .oo fun k hk=>?_
    subst hk
    exact .lc (P:=fun es=>U2 (PrsT G n sc ρ (some k :: ks) es σ)) fun e es=>.bS (ok sc k ρ σ) fun x σ₁ h r e'=>Sat.vStr (P:=fun x r=>EvT G n sc k ρ σ x σ₁ → U2 (PrsT G n sc ρ (some k :: ks) (e :: es) σ) r) (fun x=>.bS (ok sc e ρ σ₁) fun v σ₂ h2=>.bS (ih es σ₂) fun l σ₃ h3=>.yes (r:=((x,v) :: l,σ₃)) fun h=>.cons h h2 h3) e' h
theorem relKV_merged {k : Kn} {l : List (Str × SV)} : ∀ {kvs : List (Str × Value)} {es : List (Str × SV)} {acc : List (Str × Value)},RelKV k l kvs → RelKV k es acc → (keyed es).Nodup → RelKV k (l.foldl (fun es p=>put p.1 p.2 es) es) (merged acc kvs):=by
  induction l with
  | nil=>exact fun r ra nd=>r.el0 ra
  | cons p l ih=>exact fun {kvs es acc} r ra nd=>r.el (P:=fun kvs=>RelKV k ((p :: l).foldl (fun es p=>put p.1 p.2 es) es) (merged acc kvs)) fun q r' h1 h2=>ih h2 (h1.1 ▸ ra.put h1.2 nd) (put_keys nd)
theorem EvT.dict (co : ClsOk G.K) {ks : List (Option Expr)} {es : List Expr} {l : List (Str × SV)} {pos : Pos} (t : PrsT G n sc ρ ks es σ l σ') (hz : l.length ≤ 15) : EvT G n sc (.Dict ks es pos) ρ σ (.ref σ'.length) (σ' ++ [.di (l.foldl (fun es p=>put p.1 p.2 es) [])]):=fun c env cm W E Q s hA X k=>by
  cases l with
  | nil =>
    obtain ⟨rfl,rfl,rfl⟩:=t.nil0 rfl
    exact newDict_K X.Y.F X.Y.N X.Y.Z.T.nolimit fun d h' o F' N' l1 lo hd _ _ _=>k.made co X.Y F' N' l1 (relO_of hd rfl)
  | cons p r =>
    have sh:=t.shape env pos
    refine wpAny_Dict_pairs (knd:=PySem.strKind pw G.w) sh.1 (fun h=>by rw [h] at sh; exact nomatch sh.2) (by rw [sh.2]; exact hz) ?_
    have Y0:=X.Y.keepC { cls:=.type "dict",data:=.dict #[] } rfl
    have X0 : Fx G (c.cell (s.heap.objs.size,{ cls:=.type "dict",data:=.dict #[] })) env sc cm W ρ σ (s.heap.push { cls:=.type "dict",data:=.dict #[] }) :=
      ⟨Y0,X.L,X.E,let ⟨cs,a,b⟩:=X.C; ⟨cs,a,fun p hp=>.tail _ (b p hp)⟩,X.V⟩
    refine t.run (c:=c.cell (s.heap.objs.size,{ cls:=.type "dict",data:=.dict #[] })) (s:={ s with heap:=s.heap.push { cls:=.type "dict",data:=.dict #[] } }) hA X0 fun ws kvs h₁ tk W₁ X₁ hcar hr m₁=>?_
    have hg:=(X₁.Y.N _ (.head _)).1
    have hD0 : h₁.DictOf (PySem.strKind pw G.w) s.heap.objs.size []:=Heap.dictOf_iff.mpr ⟨_,hg,#[],0,⟨rfl,rfl,rfl⟩,rfl,fun e he=>absurd (Array.mem_toList_iff.mpr he) List.not_mem_nil,Pairs.nil,List.nodup_nil⟩
    refine ⟨kvs,hcar,hD0,fun h' hd' hs'=>?_⟩
    obtain ⟨ob',ho',hd'⟩:=Heap.dictOf_iff.mp hd'
    have Y':=X₁.Y.uncell (c:=c) co X.Y.Z (fun p hp=>X.Y.ne p (mem3.mpr (.inl hp))) (noCT_dict [] 0) (o:=.di ((p :: r).foldl (fun es p=>put p.1 p.2 es) [])) hs' ho' (relO_of hd' (relKV_merged hr (show RelKV _ [] [] from rfl) List.nodup_nil))
    exact k Y' (relV_new X₁.Y.S) (m₁.trans (More.app _ _))
end
section
variable {G : Cx} {n : Nat} {T : Tab} {R : Rec} {sc : Scope} {ρ : Rho} {σ σ₁ σ' : Sto} {e : Expr} {v sv : SV}
theorem aMe_s (fo : FactsOk G.V T.F) (ko : KOk G) (fok : ∀ a,FnOk G n a (R.call a)) (dom : CallDom R) (me : Me) (v : SV) (vs : List SV) : Sat (aMe T R me v vs σ) (U2 fun sv σ'=>OpT G (n + 1) (meVal me) (v :: vs) σ sv σ' ∧ KeepOk G (meVal me)):=by
  have bi:=fun me=>bcall_s (n:=n + 1) (σ:=σ) fo me v vs
  induction me with
  | own f=>exact .oe .no fun r e=>⟨fun c W E Q s vals hA Y ra k=>(fok f _ _ e).op hA.dn Y ra k,keepOk_K (ko.keep f (.inl (dom e)))⟩
  | _=>exact .oe ((bi _).mono fun r h=>⟨h,keepOk_builtin _⟩) .no
theorem aCall_s (fo : FactsOk G.V T.F) (ko : KOk G) (ok : EvOk G (n + 1) R.ev) (fok : ∀ a,FnOk G n a (R.call a)) (dom : CallDom R) (f : Expr) (args : List Expr) (kws : List Keyword) (pos : Pos) : Sat (aCall T R sc f args kws pos ρ σ) (U2 (EvT G (n + 1) sc (.Call f args kws pos) ρ σ)):=by
  refine .l0 (P:=fun kws=>U2 (EvT G (n + 1) sc (.Call f args kws pos) ρ σ)) ?_
  have q:=(exprF f).fn
  cases q with
  | attr o x ap=>exact .gd fun hb=>.gd fun hl=>.gle fun hn=>.bS (ok sc o ρ σ) fun v σ₁ h=>.oo fun me hm=>.bS (evL_s ok args σ₁) fun vs σ₂ t=>(aMe_s fo ko fok dom me v vs).mono fun r op=>h.meth ko hb hl (K.len_eq args ▸ hn) hm t op.2 op.1
  | fn _ hd hf =>
    rw [hd]
    exact .bS (ok sc f ρ σ) fun v σ₁ h=>.bS (evL_s ok args σ₁) fun vs σ₂ t=>(callV_s ko fo fok dom v vs).mono fun r op=>h.fn (fun env=>hf args pos env) t op
noncomputable def CmpR {γ : Type} (G : Cx) (n : Nat) (sc : Scope) (ρ : Rho) (σ : Sto) (f : Bool → γ) (e : Expr) (r : γ × Sto) : Prop:=∃ z,r.1 = f z ∧ EvT G n sc e ρ σ (boolV z) r.2 ∧ TstT G n sc e ρ σ z r.2
theorem cmp2_s (fo : FactsOk G.V T.F) (ok : EvOk G n R.ev) {γ : Type} (l : Expr) (ops : List CmpOp) (rs : List Expr) (f : Bool → γ) (p : Pos) : Sat (cmp2 T R sc l ops rs ρ σ f) (CmpR G n sc ρ σ f (.Compare l ops rs p)) :=
  .l1 (P:=fun ops=>CmpR G n sc ρ σ f (.Compare l ops rs p)) fun op=>.l1 (P:=fun rs=>CmpR G n sc ρ σ f (.Compare l [op] rs p)) fun r=>.gd fun hr =>
    .bS (ok sc l ρ σ) fun a σ₁ ha=>.bS (ok sc r ρ σ₁) fun b σ₂ hb=>.om fun z hz=>⟨z,rfl,EvT.cmp fo hr ha hb hz⟩
theorem aUnary_s (ok : EvOk G n R.ev) (op : UnaryOp) (x : Expr) (p : Pos) : Sat (aUnary R sc op x ρ σ) (U2 (EvT G n sc (.UnaryOp op x p) ρ σ)):=by
  induction op with
  | USub=>exact .bS (ok sc x ρ σ) fun v σ₁ h r e=>Sat.vInt (P:=fun v r=>EvT G n sc x ρ σ v σ₁ → U2 (EvT G n sc (.UnaryOp .USub x p) ρ σ) r) (fun i=>.yes (r:=(SV.d (.int (-i)),σ₁)) EvT.neg) e h
  | _=>exact .no
theorem aIf_s (ok : EvOk G n R.ev) (tok : TstOk G n R.tst) (t a b : Expr) (p : Pos) : Sat (aIf R sc t a b ρ σ) (U2 (EvT G n sc (.IfExp t a b p) ρ σ)) :=
  .bS (tok sc t ρ σ) fun z σ₁ h=>by induction z <;> exact (ok sc _ ρ σ₁).mono fun r h2=>EvT.ite h h2
theorem aSub_s (fo : FactsOk G.V T.F) (ok : EvOk G n R.ev) (v i : Expr) (p : Pos) : Sat (aSub T R sc v i ρ σ) (U2 (EvT G n sc (.Subscript v i p) ρ σ)):=.bS (ok sc v ρ σ) fun a σ₁ ha=>.bS (ok sc i ρ σ₁) fun b σ₂ hb=>.om fun y hy=>ha.sub fo hb hy
theorem aSubscript_s (fo : FactsOk G.V T.F) (ok : EvOk G n R.ev) (v i : Expr) (p : Pos) : Sat (aSubscript T R sc v i ρ σ) (U2 (EvT G n sc (.Subscript v i p) ρ σ)):=by
  have sub : ∀ i,Sat (aSub T R sc v i ρ σ) (U2 (EvT G n sc (.Subscript v i p) ρ σ)):=fun i=>aSub_s fo ok v i p
  refine @Expr.casesOn (fun i=>Sat (aSubscript T R sc v i ρ σ) (U2 (EvT G n sc (.Subscript v i p) ρ σ))) i ?_ ?_ ?_ ?_ ?_ ?_ ?_ ?_ ?_ ?_ ?_ ?_ ?_ ?_ ?_ ?_ ?_ ?_ ?_ ?_ ?_ ?_ ?_ ?_ ?_ ?_ ?_ <;> intros
  all_goals first | exact .no | exact sub _ | exact aSlice_s ok
theorem evStep_s {RT : Tab → Rec} (fo : FactsOk G.V T.F) (ko : KOk G) (ok : EvOk G (n + 1) (RT T).ev) (tok : TstOk G (n + 1) (RT T).tst) (fok : ∀ a,FnOk G n a ((RT T).call a)) (dom : CallDom (RT T)) (hc : ∀ (elt : Expr) (gs : List Comprehension) (sc' : Scope) (pos : Pos),Sat (aComp T RT sc elt gs sc' pos ρ σ) (U2 (EvT G (n + 1) sc (.ListComp elt gs sc' pos) ρ σ))) (e : Expr) : Sat (evStep T RT sc e ρ σ) (U2 (EvT G (n + 1) sc e ρ σ)) :=
  @Expr.casesOn (fun e=>Sat (evStep T RT sc e ρ σ) (U2 (EvT G (n + 1) sc e ρ σ))) e
    (fun op es p=>(evBool_s ok op es σ).mono fun r h c env cm W E Q s hA X k=>(arm_eval_BoolOp .. : _ = _) ▸ h hA X k) (fun _ _ _=>.no) (fun l op r p=>.bS (ok sc l ρ σ) fun a σ₁ ha=>.bS (ok sc r ρ σ₁) fun b σ₂ hb=>binop_s.mono fun r h=>ha.bin hb h) (fun op x p=>aUnary_s ok op x p) (fun _ _ _ _=>.no) (fun t a b p=>aIf_s ok tok t a b p)
    (fun ks vs p=>.bS (evPairs_s ok ks vs σ) fun l σ₁ t=>.glen fun hz=>.nw (EvT.dict ko.cls t hz)) (fun _ _ _=>.no) (fun e gs sc' p=>hc e gs sc' p) (fun _ _ _ _=>.no) (fun _ _ _ _ _=>.no) (fun _ _ _ _=>.no) (fun _ _=>.no) (fun _ _=>.no) (fun _ _=>.no)
    (fun l ops rs p=>(cmp2_s fo ok l ops rs boolV p).mono fun r h=>by obtain ⟨z,hz,h,-⟩:=h; unfold U2; rw [hz]; exact h) (fun f args kws p=>aCall_s fo ko ok fok dom f args kws p) (fun _ _ _ _=>.no) (fun ps p=>aJoined_s ok ps) (fun c k p=>.om fun v hv=>EvT.const σ hv) (fun o x p=>.gd fun hb=>.bS (ok sc o ρ σ) fun v σ₁ h=>.om fun y hy=>h.attr ko.attr hb hy)
    (fun v i p=>aSubscript_s fo ok v i p) (fun _ _=>.no) (fun x p=>EvT.name ko) (fun es p=>.bS (evL_s ok es σ) fun vs σ₁ t=>.glen fun hz=>.nw (EvT.list t hz)) (fun es k p=>.bS (evL_s ok es σ) fun vs σ₁ t=>.glen fun hz=>.yes (r:=(mkT vs,σ₁)) (P:=U2 (EvT G (n + 1) sc (.Tuple es k p) ρ σ)) (EvT.tuple t hz)) (fun _ _ _ _=>.no)
end
section
variable {G : Cx} {n : Nat} {T : Tab} {R : Rec} {sc : Scope} {ρ : Rho} {σ σ₁ σ' : Sto} {e : Expr} {v sv : SV}
theorem TstT.not {b : Bool} {p : Pos} (h : TstT G n sc e ρ σ b σ') : TstT G n sc (.UnaryOp .Not e p) ρ σ (!b) σ':=fun c env cm W E Q s hA X k=>isTrue_not (h hA X fun h' tk W' Y m=>k Y m)
theorem TstT.ite {t a b : Expr} {z y : Bool} {p : Pos} (ht : TstT G n sc t ρ σ z σ₁) (h : TstT G n sc (bI z a b) ρ σ₁ y σ') : TstT G n sc (.IfExp t a b p) ρ σ y σ':=fun c env cm W E Q s hA X k =>
  isTrue_IfExp (ht hA X fun h₁ tk₁ W₁ Y₁ m₁=>by induction z <;> exact h hA (s:={ s with heap:=h₁,toks:=tk₁ }) (X.back Y₁ m₁) (k.tr m₁))
noncomputable def AllT (G : Cx) (n : Nat) (sc : Scope) (op : BoolOp) (ρ : Rho) (es : List Expr) (σ : Sto) (b : Bool) (σ' : Sto) : Prop :=
  ∀ ⦃c : Ct⦄ ⦃env : Env⦄ ⦃cm : Str → Option Value⦄ ⦃W : Wd⦄ ⦃E : Value → Shared → Prop⦄ ⦃Q : Bool → Shared → Prop⦄ ⦃s : Shared⦄,Room n c.A → Fx G c env sc cm W ρ σ s.heap → PostB G c W σ' (Q b) s → wpAny G.M c.A (allTrue op es env) Q E s
theorem allT_cons {op : BoolOp} {es : List Expr} {b z : Bool} (h : TstT G n sc e ρ σ b σ₁) (t : bI b (BoolOp.casesOn op true false) (BoolOp.casesOn op false true) = true → AllT G n sc op ρ es σ₁ z σ') (u : bI b (BoolOp.casesOn op true false) (BoolOp.casesOn op false true) = false → z = b ∧ σ' = σ₁) : AllT G n sc op ρ (e :: es) σ z σ':=fun c env cm W E Q s hA X k=>by
  rw [arm_allTrue_cons]
  refine wpAny_bind (h hA X fun h₁ tk₁ W₁ Y₁ m₁=>?_)
  induction op <;> induction b
  · obtain ⟨rfl,rfl⟩:=u rfl; exact wpAny_pure (k Y₁ m₁)
  · exact t rfl hA (s:={ s with heap:=h₁,toks:=tk₁ }) (X.back Y₁ m₁) (k.tr m₁)
  · exact t rfl hA (s:={ s with heap:=h₁,toks:=tk₁ }) (X.back Y₁ m₁) (k.tr m₁)
  · obtain ⟨rfl,rfl⟩:=u rfl; exact wpAny_pure (k Y₁ m₁)
theorem tstAll_s (tok : TstOk G n R.tst) (op : BoolOp) (es : List Expr) : ∀ σ,Sat (tstAll R sc op ρ es σ) (U2 (AllT G n sc op ρ es σ)):=by
  induction es with
  | nil =>
    refine fun σ=>.yes fun c env cm W E Q s hA X k=>?_
    have:=k (tk:=s.toks) X.Y (Kn.Le.refl _)
    induction op <;> exact wpAny_pure this
  | cons e es ih =>
    intro σ
    show Sat (ob (R.tst sc e ρ σ) fun b σ=>@BoolOp.casesOn (fun _=>Option (Bool × Sto)) op (bI b (tstAll R sc op ρ es σ) (some (false,σ))) (bI b (some (true,σ)) (tstAll R sc op ρ es σ))) _
    refine .bS (tok sc e ρ σ) fun b σ₁ h=>?_
    cases op <;> cases b
    · exact .yes (allT_cons h (fun q=>nT q) fun _=>⟨rfl,rfl⟩)
    · exact (ih σ₁).mono fun r t=>allT_cons h (fun _=>t) fun q=>nT q.symm
    · exact (ih σ₁).mono fun r t=>allT_cons h (fun _=>t) fun q=>nT q.symm
    · exact .yes (allT_cons h (fun q=>nT q) fun _=>⟨rfl,rfl⟩)
theorem tAny_s (ok : EvOk G n R.ev) (e : Expr) (he : ∀ (env : Env) (w : Sem Value),isTrue e env w = (do let v ← w; standAt e.pos; holding [v] (truthy v))) : Sat (tAny R sc e ρ σ) (U2 (TstT G n sc e ρ σ)) :=
  .bS (ok sc e ρ σ) fun v σ₁ h=>.om fun b hb c env cm W E Q s hA X k=>isTrue_plain (h.at hA X fun va h₁ tk₁ W₁ X₁ r₁ m₁=>truth_s (s:={ s with heap:=h₁,toks:=tk₁ }) v hb r₁ fun tk=>k X₁.Y m₁) (he env _)
theorem tUnary_s (ok : EvOk G n R.ev) (tok : TstOk G n R.tst) (op : UnaryOp) (x : Expr) (p : Pos) : Sat (tUnary R sc op x (.UnaryOp op x p) ρ σ) (U2 (TstT G n sc (.UnaryOp op x p) ρ σ)):=by
  induction op with
  | Not=>exact .bS (tok sc x ρ σ) fun b σ₁ h=>.yes (r:=(!b,σ₁)) (P:=U2 (TstT G n sc (.UnaryOp .Not x p) ρ σ)) h.not
  | USub=>exact tAny_s ok _ fun _ _=>rfl
  | _=>exact .no
theorem tIf_s (tok : TstOk G n R.tst) (t a b : Expr) (p : Pos) : Sat (tIf R sc t a b ρ σ) (U2 (TstT G n sc (.IfExp t a b p) ρ σ)):=by
  refine .bS (tok sc t ρ σ) fun z σ₁ h=>?_
  induction z
  · exact (tok sc b ρ σ₁).mono fun r h2=>TstT.ite (z:=false) h h2
  · exact (tok sc a ρ σ₁).mono fun r h2=>TstT.ite (z:=true) h h2
theorem tstStep_s (fo : FactsOk G.V T.F) (ok : EvOk G n R.ev) (tok : TstOk G n R.tst) (e : Expr) : Sat (tstStep T R sc e ρ σ) (U2 (TstT G n sc e ρ σ)):=by
  refine @Expr.casesOn (fun e=>Sat (tstStep T R sc e ρ σ) (U2 (TstT G n sc e ρ σ))) e (fun op es p=>(tstAll_s tok op es σ).mono fun r h c env cm W E Q s hA X k=>(arm_isTrue_BoolOp .. : _ = _) ▸ h hA X k) ?_ ?_ (fun op x p=>tUnary_s ok tok op x p) ?_
    (fun t a b p=>tIf_s tok t a b p) ?_ ?_ ?_ ?_ ?_ ?_ ?_ ?_ ?_ (fun l ops rs p=>(cmp2_s fo ok l ops rs (fun b=>b) p).mono fun r h=>by obtain ⟨z,hz,-,h⟩:=h; unfold U2; rw [hz]; exact h) ?_ ?_ ?_ ?_ ?_ ?_ ?_ ?_ ?_ ?_ ?_ <;> intros
  all_goals first | exact .no | exact tAny_s ok _ fun _ _=>rfl
end
theorem All2.memR {α β : Type} {R : α → β → Prop} {b : β} {x : List α} : ∀ {y : List β},All2 R x y → b ∈ y → ∃ a ∈ x,R a b:=by
  induction x with
  | nil=>exact fun h=>h.el0 fun q=>absurd q List.not_mem_nil
  | cons a x ih=>exact fun h=>h.el (P:=fun y=>b ∈ y → ∃ c ∈ a :: x,R c b) fun c r h1 h2 q=>(List.mem_cons.mp q).elim (fun e=>⟨a,.head _,e ▸ h1⟩) fun q=>(ih h2 q).imp fun d h=>h.imp_left (.tail _)
noncomputable def Ren (f : Nat → Option Nat) (ad ad' : List Addr) : Prop:=∀ i j a,f i = some j → ad[i]? = some a → ad'[j]? = some a
theorem mapV_tup (f : Nat → Option Nat) (xs : List SV) : mapV f (.tup xs) = om (mapVs f xs) .tup:=by
  refine congrArg (fun y=>om y SV.tup) ?_
  induction xs with
  | nil=>rfl
  | cons x xs ih=>exact congrArg (fun y=>oo (mapV f x) fun b=>om y (b :: ·)) ih
section
variable {tps : Led} {ad ad' : List Addr} {f : Nat → Option Nat} (h : Ren f ad ad')
include h
theorem mapV_s (sv : SV) : Sat (mapV f sv) fun sv'=>∀ ⦃v⦄,RelV ⟨tps,ad⟩ sv v → RelV ⟨tps,ad'⟩ sv' v :=
  @SV.rec (fun sv=>Sat (mapV f sv) fun sv'=>∀ ⦃v⦄,RelV ⟨tps,ad⟩ sv v → RelV ⟨tps,ad'⟩ sv' v) (fun xs=>Sat (mapVs f xs) fun ys=>∀ ⦃vs⦄,RelVs ⟨tps,ad⟩ xs vs → RelVs ⟨tps,ad'⟩ ys vs)
    (fun x=>.yes fun v r=>r) (fun i=>.om fun j hj v r=>r.imp fun a r=>r.imp_left (h i j a hj)) (fun xs ih=>mapV_tup f xs ▸ .om fun ys e v r=>relV_el r fun a vs m r=>relV_tup.mpr ⟨a,vs,rfl,m,ih e r⟩) (fun _=>.yes fun v r=>r) (fun _=>.yes fun v r=>r) (fun _=>.yes fun v r=>r)
    (.yes fun v r=>r) (fun x xs h1 h2=>.oS h1 fun y hy=>.om fun ys e vs r=>r.el fun v vs r1 r2=>.cons (hy r1) (h2 e r2)) sv
theorem mapVs_s (xs : List SV) : Sat (mapVs f xs) fun ys=>∀ ⦃vs⦄,RelVs ⟨tps,ad⟩ xs vs → RelVs ⟨tps,ad'⟩ ys vs:=by
  induction xs with
  | nil=>exact .yes fun v r=>r
  | cons x xs ih=>exact .oS (mapV_s h x) fun y hy=>.om fun ys e vs r=>r.el fun v vs r1 r2=>.cons (hy r1) (ih e r2)
theorem mapE_s {P : Params} (es : List (Str × SV)) : Sat (mapE f es) fun es'=>keyed es' = keyed es ∧ ∀ ⦃ds⦄,RelEs P ⟨tps,ad⟩ es ds → RelEs P ⟨tps,ad'⟩ es' ds:=by
  induction es with
  | nil=>exact .yes ⟨rfl,fun v r=>r⟩
  | cons p es ih=>exact .oS (.oS (Q:=fun v=>∀ ⦃w⦄,RelV ⟨tps,ad⟩ p.2 w → RelV ⟨tps,ad'⟩ v w) (mapV_s h p.2) fun v hv=>.yes (r:=(p.1,v)) (P:=fun q=>q.1 = p.1 ∧ ∀ ⦃w⦄,RelV ⟨tps,ad⟩ p.2 w → RelV ⟨tps,ad'⟩ q.2 w) ⟨rfl,hv⟩) fun q hq=>.om fun es' e=>⟨c2 List.cons hq.1 (ih e).1,fun ds r=>r.el fun d ds r1 r2=>.cons ⟨hq.1 ▸ r1.1,hq.1 ▸ r1.2.1,hq.2 r1.2.2⟩ ((ih e).2 r2)⟩
theorem mapN_s (rs : List Nat) : Sat (mapM f rs) fun qs=>∀ ⦃as⦄,AtAll ad rs as → AtAll ad' qs as:=by
  induction rs with
  | nil=>exact .yes fun v r=>r
  | cons i rs ih=>exact .oo fun j hj=>.om fun qs e as r=>r.el fun a as r1 r2=>.cons (h i j a hj r1) (ih e r2)
theorem dataE {P : Params} (l : List (Str × D)) : ∀ {ds : List DictEntry},RelEs P ⟨tps,ad⟩ (asE l) ds → RelEs P ⟨tps,ad'⟩ (asE l) ds:=by
  induction l with
  | nil=>exact fun r=>r
  | cons p l ih=>exact fun r=>r.el fun d ds r1 r2=>.cons r1 (ih r2)
theorem mapO_s {V : Vx} (o : SO) : Sat (mapO f o) fun o'=>∀ ⦃ob⦄,RelO V ⟨tps,ad⟩ o ob → RelO V ⟨tps,ad'⟩ o' ob:=by
  cases o with
  | ls xs=>exact .om fun ys e ob r=>LsR.mono r fun vs r=>mapVs_s h xs e r
  | di es=>exact .om fun es' e ob r=>let ⟨nd,ds,n,ho,re⟩:=r; ⟨show (keyed es').Nodup from (mapE_s (tps:=tps) (P:=V.w.params) h es e).1 ▸ nd,ds,n,ho,(mapE_s h es e).2 re⟩
  | inst c d=>exact .om fun j hj ob r=>r.imp fun a r=>r.imp_left (h d j a hj)
  | sd x=>exact .yes fun ob r=>⟨r.1,r.2.1,let ⟨ds,n,ho,re⟩:=r.2.2; ⟨ds,n,ho,dataE h _ re⟩⟩
  | as k rs=>exact .om fun qs e ob r=>r.imp fun as r=>r.imp_left fun r=>mapN_s h rs e r
  | _=>exact .yes fun ob r=>r
end
theorem posN_s (i : Nat) (π : List Nat) : ∀ k,Sat (posN i π k) fun j=>∃ t,j = k + t ∧ π[t]? = some i:=by
  induction π with
  | nil=>exact fun k=>.no
  | cons x r ih=>exact fun k=>.bI (fun q=>.yes ⟨0,rfl,congrArg some (Nat.eq_of_beq_eq_true q)⟩) fun _=>(ih (k + 1)).mono fun j ⟨t,e,ht⟩=>⟨t + 1,e.trans (Nat.add_right_comm k 1 t),ht⟩
theorem ren_pos {ad as : List Addr} {π : List Nat} (h : AtAll ad π as) : Ren (fun i=>posN i π 0) ad as:=fun i j a e ha=>by
  obtain ⟨t,rfl,ht⟩:=posN_s i π 0 e
  obtain ⟨b,hb,e'⟩:=h.get ht
  rw [Nat.zero_add,hb,← e',ha]
theorem atAll_nodup {ad : List Addr} (nd : ad.Nodup) {π : List Nat} : ∀ {as : List Addr},AtAll ad π as → π.Nodup → as.Nodup:=by
  induction π with
  | nil=>exact fun h _=>h.el0 List.nodup_nil
  | cons i π ih=>exact fun h n=>h.el fun a as h1 h2=>List.nodup_cons.mpr ⟨fun q=>(List.nodup_cons.mp n).1 (by obtain ⟨j,hj,e⟩:=All2.memR h2 q; rwa [(List.getElem?_inj (List.getElem?_eq_some_iff.mp h1).1 nd).mp (h1.trans e.symm)]),ih h2 (List.nodup_cons.mp n).2⟩
theorem hasN_of {i : Nat} {l : List Nat} (h : i ∈ l) : hasN i l = true:=by
  induction l with
  | nil=>exact absurd h List.not_mem_nil
  | cons j l ih =>
    show bI (Nat.beq j i) true (hasN i l) = true
    cases q : Nat.beq j i with
    | true=>rfl
    | false=>exact ih ((List.mem_cons.mp h).resolve_left fun e=>Nat.ne_of_beq_eq_false q e.symm)
theorem dfs_nodup {kd : SO → List Nat} {σ : Sto} (k : Nat) : ∀ {r acc : List Nat},acc.Nodup → (dfs kd σ k r acc).Nodup:=by
  induction k with
  | zero=>exact fun h=>h
  | succ k ih =>
    intro r acc h
    induction r with
    | nil=>exact h
    | cons i r _ =>
      show (bI (hasN i acc) (dfs kd σ k r acc) (dfs kd σ k (K.app _ r) (i :: acc))).Nodup
      cases q : hasN i acc with
      | true=>exact ih h
      | false=>exact ih (List.nodup_cons.mpr ⟨fun m=>nT (q.symm.trans (hasN_of m)),h⟩)
theorem rv_nodup {l : List Nat} (h : l.Nodup) : (K.rv l).Nodup:=K.rv_eq l ▸ (List.reverse_perm l).nodup_iff.mpr h
theorem dfs_pre {kd : SO → List Nat} {σ : Sto} (k : Nat) : ∀ (r acc : List Nat),∃ u,dfs kd σ k r acc = u ++ acc:=by
  induction k with
  | zero=>exact fun r acc=>⟨[],rfl⟩
  | succ k ih =>
    intro r acc
    induction r with
    | nil=>exact ⟨[],rfl⟩
    | cons i r _ =>
      show ∃ u,bI (hasN i acc) (dfs kd σ k r acc) (dfs kd σ k (K.app _ r) (i :: acc)) = u ++ acc
      cases hasN i acc with
      | true=>exact ih r acc
      | false=>exact (ih _ (i :: acc)).elim fun u hu=>⟨u ++ [i],hu.trans (by rw [List.append_assoc]; rfl)⟩
noncomputable abbrev Picks (led : Led) : List Nat → Led → Prop:=All2 fun i p=>led[i]? = some p
theorem Picks.at {led : Led} {π : List Nat} : ∀ {L : Led},Picks led π L → AtAll (led.map (·.1)) π (L.map (·.1)):=by
  induction π with
  | nil=>exact fun h=>h.el0 rfl
  | cons i π ih=>exact fun h=>h.el fun p L h1 h2=>.cons (by rw [List.getElem?_map,h1]; rfl) (ih h2)
theorem Picks.mem {led : Led} {π : List Nat} {L : Led} (h : Picks led π L) : ∀ p ∈ L,p ∈ led:=fun p hp=>(All2.memR h hp).elim fun i h=>List.mem_of_getElem? h.2
theorem denX_obj {V : Vx} {g : Nat → Obj} (x : DX) : denX { V with obj:=g } x = denX V x:=by
  induction x with
  | setd x k v ih=>exact congrArg (fun l=>setdD l k v) ih
  | _=>rfl
theorem RelO.swapObj {V : Vx} {g : Nat → Obj} {k : Kn} {o : SO} {ob : Obj} (hn : anyK o = none) (r : RelO V k o ob) : RelO { V with obj:=g } k o ob:=by
  cases o with
  | any j=>exact nS hn.symm
  | sd x =>
    have e:=denX_obj (V:=V) (g:=g) x
    show (denX { V with obj:=g } x).length ≤ 100 + cntX x ∧ DiR { V with obj:=g } k (asE (denX { V with obj:=g } x)) ob
    rw [e]
    exact r
  | _=>exact r
theorem frzO_s {V : Vx} {g : Nat → Obj} {tps : Led} {ad ad' : List Addr} {f : Nat → Option Nat} (hr : Ren f ad ad') {z : Bool} {j : Nat} {o : SO} {ob : Obj} (h0 : z = false → g = V.obj) (h1 : z = true → g j = ob) (r : RelO V ⟨tps,ad⟩ o ob) : Sat (frzO z f j o) fun o'=>RelO { V with obj:=g } ⟨tps,ad'⟩ o' ob:=by
  cases z with
  | false=>exact (mapO_s hr o).mono fun o' h=>(h0 rfl).symm ▸ h r
  | true =>
    show Sat (bI (isV o) (some (.any j)) (gd (anyK o).isNone (mapO f o))) _
    exact .bI (fun _=>.yes (r:=SO.any j) (h1 rfl).symm) fun _=>.gd fun hn=>(mapO_s hr o).mono fun o' h=>h (r.swapObj (Option.isNone_iff_eq_none.mp hn))
structure PickR (V : Vx) (z : Bool) (f : Nat → Option Nat) (tps led : Led) (π : List Nat) (j : Nat) (s : Sto) (L : Led) : Prop where
  pk : Picks led π L
  rel : ∀ ⦃g : Nat → Obj⦄ ⦃ad' : List Addr⦄,Ren f (led.map (·.1)) ad' → (z = false → g = V.obj) → (z = true → ∀ t p,L[t]? = some p → g (j + t) = p.2) → RelOs { V with obj:=g } ⟨tps,ad'⟩ s L
theorem pickZ_s {V : Vx} {z : Bool} {f : Nat → Option Nat} {tps led : Led} {σ : Sto} (R : RelOs V ⟨tps,led.map (·.1)⟩ σ led) (π : List Nat) : ∀ j,Sat (pickZ z f σ π j) fun s=>∃ L,PickR V z f tps led π j s L:=by
  induction π with
  | nil=>exact fun j=>.yes ⟨[],rfl,fun g ad' _ _ _=>rfl⟩
  | cons i π ih =>
    refine fun j=>.aO fun o ho=>.oo fun o' ho'=>.om fun s e=>?_
    obtain ⟨L,pk,rel⟩:=ih (j + 1) e
    obtain ⟨p,hp,r⟩:=R.get ho
    exact ⟨p :: L,.cons hp pk,fun g ad' hr h0 h1=>.cons (frzO_s hr h0 (fun q=>h1 q 0 p rfl) r ho') (rel hr h0 fun q t p' h=>(congrArg g (Nat.add_right_comm j 1 t)).trans (h1 q (t + 1) p' h))⟩
theorem All2.setAll {α β : Type} {R : α → β → Prop} {π : List Nat} : ∀ {x : List α} {y : List β} {u : List α} {w : List β},All2 R x y → All2 R u w → All2 R (setAll π x u) (setAll π y w):=by
  induction π with
  | nil=>exact fun {x y u w} h k=>show All2 R (K.app u x) (K.app w y) from K.app_eq w y ▸ .kapp h k
  | cons i π ih =>
    intro x y u w h k
    cases x with
    | nil=>exact h.el0 (P:=fun y=>All2 R u (Mine.setAll (i :: π) y w)) k
    | cons a x=>exact h.el (P:=fun y=>All2 R (Mine.setAll π x (K.lset u i a)) (Mine.setAll (i :: π) y w)) fun b y h1 h2=>ih h2 (by rw [K.lset_eq,K.lset_eq]; exact All2.set h1 k)
theorem setAll_ad {π : List Nat} : ∀ {as r : List Addr} {led x : Led},AtAll (led.map (·.1)) π as → x.map (·.1) = as ++ r → (setAll π x led).map (·.1) = led.map (·.1) ++ r:=by
  induction π with
  | nil =>
    intro as r led x h e
    have e:=e.trans (congrArg (· ++ r) (show as = [] from h))
    exact (congrArg (List.map (·.1)) (K.app_eq led x)).trans (List.map_append.trans (congrArg (led.map (·.1) ++ ·) e))
  | cons i π ih =>
    intro as r led x h e
    refine h.el (P:=fun as=>x.map (·.1) = as ++ r → (setAll (i :: π) x led).map (·.1) = led.map (·.1) ++ r) (fun a as h1 h2 e=>?_) e
    cases x with
    | nil=>exact nomatch e
    | cons o x =>
      obtain ⟨b,ob⟩:=o
      have e:=List.cons.inj e
      cases (show b = a from e.1)
      obtain ⟨p,hp,hb⟩:=Option.map_eq_some_iff.mp ((List.getElem?_map ..).symm.trans h1)
      obtain ⟨a',o'⟩:=p
      cases (show a' = a from hb)
      show (setAll π x (K.lset led i (a,ob))).map (·.1) = _
      have q : (led.set i (a,ob)).map (·.1) = led.map (·.1):=map_set_fst hp
      rw [K.lset_eq,ih (as:=as) (r:=r) (q ▸ h2) e.2,q]
theorem setAll_mem {π : List Nat} {p : Addr × Obj} : ∀ {as r : List Addr} {led x : Led},AtAll (led.map (·.1)) π as → x.map (·.1) = as ++ r → (led.map (·.1)).Nodup → p ∈ setAll π x led → p ∈ x ∨ (p ∈ led ∧ p.1 ∉ as):=by
  induction π with
  | nil=>exact fun {as r led x} h e nd m=>h.el0 ((List.mem_append.mp (show p ∈ led ++ x from K.app_eq led x ▸ m)).elim (fun m=>.inr ⟨m,List.not_mem_nil⟩) .inl)
  | cons i π ih =>
    intro as r led x h e nd m
    refine h.el (P:=fun as=>x.map (·.1) = as ++ r → p ∈ x ∨ (p ∈ led ∧ p.1 ∉ as)) (fun a as h1 h2 e=>?_) e
    cases x with
    | nil=>exact nomatch e
    | cons o x =>
      obtain ⟨b,ob⟩:=o
      have e:=List.cons.inj e
      cases (show b = a from e.1)
      obtain ⟨q,hq,hb⟩:=Option.map_eq_some_iff.mp ((List.getElem?_map ..).symm.trans h1)
      obtain ⟨a',o'⟩:=q
      cases (show a' = a from hb)
      have m : p ∈ setAll π x (led.set i (a,ob)):=K.lset_eq led i (a,ob) ▸ m
      have q : (led.set i (a,ob)).map (·.1) = led.map (·.1):=map_set_fst hq
      rcases ih (as:=as) (r:=r) (q ▸ h2) e.2 (q ▸ nd) m with m | ⟨m,n⟩
      · exact .inl (.tail _ m)
      · obtain ⟨j,hj⟩:=List.getElem?_of_mem m
        rw [List.getElem?_set] at hj
        split at hj
        · split at hj
          · exact .inl (Option.some.inj hj ▸ .head _)
          · exact nS hj
        · rename_i ne
          refine .inr ⟨List.mem_of_getElem? hj,fun z=>(List.mem_cons.mp z).elim (fun z=>ne ?_) n⟩
          exact (List.getElem?_inj (List.getElem?_eq_some_iff.mp h1).1 nd).mp (h1.trans (by rw [List.getElem?_map,hj,← z]; rfl))
theorem adLe_pre {as : List Addr} : ∀ {b : List Addr},AdLe as b → ∃ r,b = as ++ r:=by
  induction as with
  | nil=>exact fun _=>⟨_,rfl⟩
  | cons a as ih =>
    intro b h
    cases b with
    | nil=>exact nS (h 0 a rfl)
    | cons c b=>exact (ih (b:=b) fun i x hi=>h (i + 1) x hi).elim fun r e=>⟨r,by rw [e,Option.some.inj (h 0 a rfl)]; rfl⟩
theorem ren_back {ad as r : List Addr} {π : List Nat} (h : AtAll ad π as) : Ren (backF π ad.length π.length) (as ++ r) (ad ++ r):=fun j i a e ha=>by
  have hl : as.length = π.length:=h.length
  unfold backF at e
  rw [nth_eq] at e
  cases q : π[j]? with
  | some i' =>
    rw [q] at e
    cases e
    obtain ⟨b,hb,e'⟩:=h.get q
    rw [List.getElem?_append_left (List.getElem?_eq_some_iff.mp hb).1,hb] at ha
    rw [List.getElem?_append_left (List.getElem?_eq_some_iff.mp e').1,e',← ha]
  | none =>
    rw [q] at e
    cases e
    have q:=List.getElem?_eq_none_iff.mp q
    rw [List.getElem?_append_right (hl ▸ q),hl] at ha
    rw [List.getElem?_append_right (Nat.le_add_right _ _),Nat.add_sub_cancel_left]
    exact ha
noncomputable def ledOff (led : Led) (as : List Addr) : Led:=led.filter fun p=>!(as.contains p.1)
theorem mem_ledOff {led : Led} {as : List Addr} {p : Addr × Obj} : p ∈ ledOff led as ↔ p ∈ led ∧ p.1 ∉ as:=by
  unfold ledOff
  rw [List.mem_filter]
  simp
noncomputable abbrev Ct.off (c : Ct) (l : Led) : Ct:={ c with cells:=c.cells ++ l }
noncomputable abbrev Cx.obj (G : Cx) (g : Nat → Obj) : Cx:={ G with V:={ G.V with obj:=g } }
section
variable {G : Cx} {c : Ct} {W W₂ : Wd} {σ σ₃ : Sto} {s₀ : Sto} {h h₂ : Heap} {L : Led} {g : Nat → Obj}
theorem Fz.off (Z : Fz G c) (l : Led) : Fz (G.obj g) (c.off l):=⟨Z.B,Z.fro,Z.X,Z.T,fun p hp=>List.mem_append_left _ (Z.kept p hp)⟩
theorem Fy.narrow (Y : Fy G c W σ h) (hs : ∀ p ∈ L,p ∈ W.led) (S : Sim (G.obj g).V ⟨L,W.tps⟩ s₀) : Fy (G.obj g) (c.off (ledOff W.led (L.map (·.1)))) ⟨L,W.tps⟩ s₀ h :=
  ⟨Y.Z.off _,Y.F,fun p hp=>by
    rcases mem3.mp hp with hp | hp | hp
    · exact (List.mem_append.mp hp).elim (fun hp=>Y.N p (mem3.mpr (.inl hp))) fun hp=>Y.N p (mem3.mpr (.inr (.inl (mem_ledOff.mp hp).1)))
    · exact Y.N p (mem3.mpr (.inr (.inl (hs p hp))))
    · exact Y.N p (mem3.mpr (.inr (.inr hp))),fun p hp=>Y.lo p (hs p hp),fun p hp q hq=>(List.mem_append.mp hp).elim (fun hp=>Y.AC p hp q (hs q hq)) fun hp e=>(mem_ledOff.mp hp).2 (e ▸ List.mem_map_of_mem hq),S⟩
theorem Fy.widen (Y : Fy G c W σ h) {π : List Nat} {as r : List Addr} (ha : AtAll (W.led.map (·.1)) π as) (e : W₂.led.map (·.1) = as ++ r) (Y₂ : Fy (G.obj g) (c.off (ledOff W.led as)) W₂ s₀ h₂)
    (R : RelOs G.V ⟨W₂.tps,W.led.map (·.1) ++ r⟩ σ₃ (setAll π W₂.led W.led)) : Fy G c ⟨setAll π W₂.led W.led,W₂.tps⟩ σ₃ h₂:=by
  have inv : ∀ p ∈ setAll π W₂.led W.led,p ∈ W₂.led ∨ p ∈ ledOff W.led as:=fun p hp=>(setAll_mem ha e Y.S.nodup hp).imp id mem_ledOff.mpr
  have ead : (setAll π W₂.led W.led).map (·.1) = W.led.map (·.1) ++ r:=setAll_ad ha e
  refine ⟨Y.Z,Y₂.F,fun p hp=>?_,fun p hp=>?_,fun p hp q hq=>?_,⟨?_,?_,Y₂.S.tup⟩⟩
  · rcases mem3.mp hp with hp | hp | hp
    · exact Y₂.N p (mem3.mpr (.inl (List.mem_append_left _ hp)))
    · exact (inv p hp).elim (fun hp=>Y₂.N p (mem3.mpr (.inr (.inl hp)))) fun hp=>Y₂.N p (mem3.mpr (.inl (List.mem_append_right _ hp)))
    · exact Y₂.N p (mem3.mpr (.inr (.inr hp)))
  · exact (inv p hp).elim (Y₂.lo p) fun hp=>Y.lo p (mem_ledOff.mp hp).1
  · exact (inv q hq).elim (fun hq=>Y₂.AC p (List.mem_append_left _ hp) q hq) fun hq=>Y.AC p hp q (mem_ledOff.mp hq).1
  · show RelOs G.V ⟨W₂.tps,(setAll π W₂.led W.led).map (·.1)⟩ _ _
    rw [ead]
    exact R
  · rw [ead]
    have nd:=e ▸ Y₂.S.nodup
    refine List.nodup_append.mpr ⟨Y.S.nodup,(List.nodup_append.mp nd).2.1,fun a h1 b h2 q=>?_⟩
    subst q
    obtain ⟨p,hp,rfl⟩:=List.mem_map.mp h1
    by_cases hq : p.1 ∈ as
    · exact (List.nodup_append.mp nd).2.2 _ hq _ h2 rfl
    · obtain ⟨p',hp',e'⟩:=List.mem_map.mp (e ▸ List.mem_append_right as h2 : p.1 ∈ W₂.led.map (·.1))
      exact Y₂.AC p (List.mem_append_right _ (mem_ledOff.mpr ⟨hp,hq⟩)) p' hp' e'.symm
end
theorem anyK_i {o : SO} {q : Nat} : anyK o = some q → o = .any q:=by
  cases o with
  | any k=>exact fun h=>congrArg SO.any (Option.some.inj h)
  | _=>exact fun h=>nS h
section
variable {V : Vx} {g : Nat → Obj} {tps : Led} {ad ad' : List Addr} {f : Nat → Option Nat} {z : Bool} {π : List Nat} {σ : Sto}
theorem thawO_s (hr : Ren f ad ad') (h0 : z = false → g = V.obj) (hc : z = true → ∀ j i o,π[j]? = some i → σ[i]? = some o → RelO V ⟨tps,ad'⟩ o (g j)) (j : Nat) {o : SO} {ob : Obj} (r : RelO { V with obj:=g } ⟨tps,ad⟩ o ob) : Sat (thawO z f π σ j o) fun o'=>RelO V ⟨tps,ad'⟩ o' ob:=by
  have back : anyK o = none → RelO V ⟨tps,ad⟩ o ob:=fun hn=>RelO.swapObj (V:={ V with obj:=g }) (g:=V.obj) hn r
  cases z with
  | false =>
    cases h0 rfl
    exact (mapO_s hr o).mono fun o' h=>h r
  | true =>
    show Sat (@Option.rec Nat (fun _=>Option SO) (mapO f o) (fun k=>gd (Nat.beq k j) (oo (K.nth π j) fun i=>K.nth σ i)) (anyK o)) _
    cases e : anyK o with
    | none=>exact (mapO_s hr o).mono fun o' h=>h (back e)
    | some q =>
      obtain rfl:=anyK_i e
      refine .gd fun hq=>.oo fun i hi o' ho=>?_
      rw [Nat.eq_of_beq_eq_true hq] at r
      rw [show ob = g j from r]
      exact hc rfl j i o' (nth_eq π j ▸ hi) (nth_eq σ i ▸ ho)
theorem thawOs_s (hr : Ren f ad ad') (h0 : z = false → g = V.obj) (hc : z = true → ∀ j i o,π[j]? = some i → σ[i]? = some o → RelO V ⟨tps,ad'⟩ o (g j)) (l : Sto) : ∀ (j : Nat) {L : Led},RelOs { V with obj:=g } ⟨tps,ad⟩ l L → Sat (thawOs z f π σ l j) fun out=>RelOs V ⟨tps,ad'⟩ out L:=by
  induction l with
  | nil=>exact fun j L r=>r.el0 (P:=fun L=>Sat (some []) fun out=>RelOs V ⟨tps,ad'⟩ out L) (.yes rfl)
  | cons o l ih=>exact fun j L r=>r.el (P:=fun L=>Sat (thawOs z f π σ (o :: l) j) fun out=>RelOs V ⟨tps,ad'⟩ out L) fun p L h1 h2=>.oS (thawO_s hr h0 hc j h1) fun o' ho=>.om fun out e=>.cons ho (ih (j + 1) h2 e)
end
theorem locAt_s {G : Cx} {n a : Nat} {F : Fn} {z : Bool} {args : List SV} {σ : Sto} (fok : ∀ g,(z = false → g = G.V.obj) → FnOk (G.obj g) n a F) {π : List Nat} (nd : π.Nodup) : Sat (locAt z F π args σ) (U2 (FnT G n a args σ)):=by
  refine .oo fun args' e1=>.oo fun loc e2=>.ob fun v loc' e3=>.oo fun v' e4=>.om fun out e5 c W C s vals hA Y ra k=>?_
  obtain ⟨L,pk,rel⟩:=pickZ_s (V:=G.V) Y.S.rel π 0 e2
  have ha:=pk.at
  have gg : ∃ g : Nat → Obj,(z = false → g = G.V.obj) ∧ (z = true → ∀ t p,L[t]? = some p → g t = p.2):=by
    cases z with
    | false=>exact ⟨_,fun _=>rfl,fun h=>nT h⟩
    | true=>exact ⟨fun j=>((L[j]?).map (·.2)).getD default,fun h=>nT h.symm,fun _ t p h=>by dsimp only; rw [h]; rfl⟩
  obtain ⟨g,h0,h1⟩:=gg
  have Y1:=Y.narrow (g:=g) pk.mem ⟨rel (ren_pos ha) h0 fun q t p h=>(congrArg g (Nat.zero_add t)).trans (h1 q t p h),atAll_nodup Y.S.nodup ha nd,Y.S.tup⟩
  refine fok g h0 args' loc e3 (c:=c.off (ledOff W.led (L.map (·.1)))) (W:=⟨L,W.tps⟩) hA Y1 (mapVs_s (ren_pos ha) args e1 ra) fun w h₂ tk W₂ Y₂ rw' m₂=>?_
  obtain ⟨r,er⟩:=adLe_pre (show AdLe (L.map fun p=>p.1) (W₂.led.map fun p=>p.1) from m₂.ad)
  have ead : (setAll π W₂.led W.led).map (·.1) = W.led.map (·.1) ++ r:=setAll_ad ha er
  rw [K.len_eq,K.len_eq,← Y.S.rel.length,← List.length_map (·.1)] at e4 e5
  have rb : Ren (backF π (W.led.map (·.1)).length π.length) (W₂.led.map (·.1)) (W.led.map (·.1) ++ r):=by rw [er]; exact ren_back ha
  have le : W.kn.Le ⟨W₂.tps,W.led.map (·.1) ++ r⟩:=⟨m₂.tps,AdLe.append _ _⟩
  have outs : RelOs G.V ⟨W₂.tps,W.led.map (·.1) ++ r⟩ out W₂.led:=thawOs_s (g:=g) rb h0 (fun q j i o hj ho=>by
    obtain ⟨p,hp,e⟩:=pk.get hj
    obtain ⟨p',hp',r'⟩:=Y.S.rel.get ho
    rw [h1 q j p hp,Option.some.inj (e.symm.trans hp')]
    exact RelO.mono le o r') loc' 0 Y₂.S.rel e5
  have kn : Wd.kn ⟨setAll π W₂.led W.led,W₂.tps⟩ = ⟨W₂.tps,W.led.map (·.1) ++ r⟩:=congrArg (Kn.mk W₂.tps) ead
  exact k (Y.widen ha er Y₂ (All2.setAll outs (RelOs.mono le Y.S.rel))) (by rw [kn]; exact mapV_s rb v e4 rw') (by unfold More; rw [kn]; exact le)
theorem loc_s {G : Cx} {n a : Nat} {F : Fn} (z : Bool) (fok : ∀ g,(z = false → g = G.V.obj) → FnOk (G.obj g) n a F) : FnOk G n a (localize z F):=fun _ _=>locAt_s fok (rv_nodup (dfs_nodup 400 List.nodup_nil))
section
variable {G : Cx} {c : Ct} {W : Wd} {σ : Sto} {h h' : Heap} {L : Addr} {m : Str → Option Value}
noncomputable def groundOf (h : Heap) (l : Led) : Heap:=hideAll h (l.map (·.1))
theorem Fy.ground (Y : Fy G c W σ h) : Fr c.h₀ c.L (groundOf h (c.all W)) c.m:=by
  have nm : ∀ b o,c.h₀.get? b = some o → b ∉ (c.all W).map (·.1):=fun b o e q=>by
    obtain ⟨p,hp,rfl⟩:=List.mem_map.mp q
    rw [(Y.N p hp).2.2] at e; exact nS e
  obtain ⟨oL,es,ep,hL,r⟩:=Y.F.ns
  have nL : c.L ∉ (c.all W).map (·.1):=fun q=>by
    obtain ⟨p,hp,e⟩:=List.mem_map.mp q
    exact (Y.N p hp).2.1 e
  exact ⟨⟨oL,es,ep,hideAll_get _ hL nL,r⟩,fun b o e=>hideAll_get _ (Y.F.keep b o e) (nm b o e),Y.F.above⟩
theorem Fy.below (Y : Fy G c W σ h) (hk : ∀ b o,(groundOf h (c.all W)).get? b = some o → h'.get? b = some o) : Below c.A c.base c.outer h':=by
  have B:=Y.Z.B _ _ Y.ground
  exact ⟨B.stack,fun b o e=>hk b o (B.stays b o e),B.frames.of_keeps fun b o e _=>⟨o,hk b o e,rfl⟩⟩
noncomputable abbrev Ct.on (c : Ct) (g : Heap) (C : Addr) (mC : Str → Option Value) : Ct:={ c with h₀:=g,L:=C,m:=mC }
theorem Fy.enter (Y : Fy G c W σ h) {C : Addr} {mC : Str → Option Value} (hn : h'.Ns C mC) (hk : ∀ b o,h.get? b = some o → h'.get? b = some o) (hC : h.objs.size ≤ C) : Fy G (c.on (groundOf h (c.all W)) C mC) W σ h':=by
  have g:=Y.ground
  refine ⟨⟨fun h' m' F'=>Y.below F'.keep,fun e he L' hL'=>?_,Y.Z.X.keeps g.keep,Y.Z.T.keeps g.keep,Y.Z.kept⟩,⟨hn,fun b o e=>hk b o (of_hideAll _ e),by rw [show (groundOf h (c.all W)).objs.size = h.objs.size from hideAll_size _ _]; exact hC⟩,
    fun p hp=>⟨hk _ _ (Y.N p hp).1,Nat.ne_of_lt (Nat.lt_of_lt_of_le (Y.lt p hp) hC),hideAll_none _ (List.mem_map_of_mem hp)⟩,Y.lo,Y.AC,Y.S⟩
  rcases Y.Z.fro e he L' hL' with rfl | q
  · obtain ⟨o,_,_,ho,_⟩:=g.ns
    exact .inr (by show (Heap.get? _ _).isSome = true; rw [ho]; rfl)
  · obtain ⟨o,ho⟩:=Option.isSome_iff_exists.mp q
    exact .inr (by show (Heap.get? _ _).isSome = true; rw [g.keep _ _ ho]; rfl)
theorem Fr.back {h₀ g : Heap} {C : Addr} {mC : Str → Option Value} (FG : Fr h₀ L g m) (F' : Fr g C h' mC) : Fr h₀ L h' m:=by
  obtain ⟨oL,es,ep,hL,r⟩:=FG.ns
  exact ⟨⟨oL,es,ep,F'.keep _ _ hL,r⟩,fun b o e=>F'.keep _ _ (FG.keep b o e),FG.above⟩
theorem News.back {h₀ g : Heap} {C : Addr} {news : Led} (FG : Fr h₀ L g m) (N' : News g C h' news) : News h₀ L h' news:=fun p hp=>by
  obtain ⟨oL,es,ep,hL,r⟩:=FG.ns
  refine ⟨(N' p hp).1,fun q=>?_,?_⟩
  · have:=(N' p hp).2.2; rw [q,hL] at this; exact nS this.symm
  · cases q : h₀.get? p.1 with
    | none=>rfl
    | some o=>have:=(N' p hp).2.2; rw [FG.keep _ _ q] at this; exact nS this.symm
theorem Fy.leave {g : Heap} {c' : Ct} {W' : Wd} {σ' : Sto} (Z : Fz G c) (FG : Fr c.h₀ c.L g c.m) (Y' : Fy G c' W' σ' h') (hg : c'.h₀ = g) (hc : ∀ p ∈ c.cells,p ∈ c'.cells) : Fy G c W' σ' h':=by
  subst hg
  exact ⟨Z,Fr.back FG Y'.F,fun p hp=>News.back FG Y'.N p ((List.mem_append.mp hp).elim (fun hp=>List.mem_append_left _ (hc p hp)) (List.mem_append_right _)),Y'.lo,fun p hp=>Y'.AC p (hc p hp),Y'.S⟩
theorem Fz.cellsTo (Z : Fz G c) {l : Led} (hk : ∀ p ∈ G.kept,p ∈ l) : Fz G { c with cells:=l }:=⟨Z.B,Z.fro,Z.X,Z.T,hk⟩
theorem Fy.cellsTo (Y : Fy G c W σ h) {l : Led} (hl : ∀ p ∈ l,p ∈ c.cells) (hk : ∀ p ∈ G.kept,p ∈ l) : Fy G { c with cells:=l } W σ h :=
  ⟨Y.Z.cellsTo hk,Y.F,fun p hp=>Y.N p ((List.mem_append.mp hp).elim (fun hp=>List.mem_append_left _ (hl p hp)) (List.mem_append_right _)),Y.lo,fun p hp=>Y.AC p (hl p hp),Y.S⟩
theorem Fy.cellTo (Y : Fy G c W σ h) {I : Addr} {o o' : Obj} {l : Led} (hI : (I,o) ∈ c.cells) (hn : NoCT o) (hs : Heap.SameBut I h h') (hl : ∀ p ∈ l,(p = (I,o') ∧ h'.get? I = some o') ∨ (p ∈ c.cells ∧ p.1 ≠ I)) (hk : ∀ p ∈ G.kept,p ∈ l) : Fy G { c with cells:=l } W σ h':=by
  have zI:=Y.N (I,o) (mem3.mpr (.inl hI))
  have old : ∀ p ∈ c.all W,p.1 ≠ I → h'.get? p.1 = some p.2 ∧ p.1 ≠ c.L ∧ c.h₀.get? p.1 = none:=fun p hp ne=>⟨(hs.2 p.1 ne).trans (Y.N p hp).1,(Y.N p hp).2⟩
  refine ⟨Y.Z.cellsTo hk,Y.F.change hs zI.2.1 zI.2.2,fun p hp=>?_,Y.lo,fun p hp q hq=>?_,Y.S⟩
  · rcases mem3.mp hp with hp | hp | hp
    · rcases hl p hp with ⟨rfl,ho⟩ | ⟨hp,ne⟩
      · exact ⟨ho,zI.2⟩
      · exact old p (mem3.mpr (.inl hp)) ne
    · exact old p (mem3.mpr (.inr (.inl hp))) fun e=>Y.AC (I,o) hI p hp e.symm
    · exact old p (mem3.mpr (.inr (.inr hp))) (Y.tupNe zI.1 hn p hp)
  · rcases hl p hp with ⟨rfl,ho⟩ | ⟨hp,ne⟩
    · exact Y.AC (I,o) hI q hq
    · exact Y.AC p hp q hq
end
noncomputable def setC (a : Addr) (o' : Obj) (cs : Led) : Led:=cs.map fun p=>if p.1 = a then (a,o') else p
theorem setC_cons (a : Addr) (o' : Obj) (p : Addr × Obj) (cs : Led) : setC a o' (p :: cs) = (if p.1 = a then (a,o') else p) :: setC a o' cs:=rfl
theorem setC_addrs (a : Addr) (o' : Obj) (cs : Led) : (setC a o' cs).map (·.1) = cs.map (·.1):=by
  induction cs with
  | nil=>rfl
  | cons p cs ih =>
    rw [setC_cons,List.map_cons,List.map_cons,ih]
    by_cases q : p.1 = a
    · rw [if_pos q,q]
    · rw [if_neg q]
theorem mem_setC {a : Addr} {o' : Obj} {cs : Led} {p : Addr × Obj} (h : p ∈ setC a o' cs) : p = (a,o') ∨ (p ∈ cs ∧ p.1 ≠ a):=by
  obtain ⟨q,hq,e⟩:=List.mem_map.mp h
  split at e
  · exact .inl e.symm
  · exact .inr ⟨e ▸ hq,by rw [← e]; assumption⟩
theorem lookup_mem {x : Str} {a : Addr} {cl : List (Str × Addr)} : cl.lookup x = some a → (x,a) ∈ cl:=by
  induction cl with
  | nil=>exact fun h=>nS h
  | cons p r ih =>
    intro h
    rw [List.lookup_cons] at h
    cases q : x == p.1 with
    | true =>
      rw [q] at h
      rw [beq_iff_eq.mp q,← Option.some.inj h]
      exact .head _
    | false=>rw [q] at h; exact .tail _ (ih h)
noncomputable abbrev setM (cm : Str → Option Value) (x : Str) (w : Value) : Str → Option Value:=fun y=>if y = x then some w else cm y
theorem cellsAre_keep {cm : Str → Option Value} {x : Str} {w : Value} {a : Addr} {o' : Obj} {cl : List (Str × Addr)} {cs : Led} (r : CellsAre cm cl cs) : x ∉ cl.map (·.1) → a ∉ cl.map (·.2) → CellsAre (setM cm x w) cl (setC a o' cs):=by
  induction r with
  | nil=>exact fun _ _=>.nil
  | cons hd r ih =>
    intro q q'
    rw [List.map_cons,List.mem_cons,not_or] at q q'
    rw [setC_cons,if_neg (Ne.symm q'.1)]
    exact .cons (by unfold setM; rw [if_neg (Ne.symm q.1)]; exact hd) (ih q.2 q'.2)
theorem cellsAre_set {cm : Str → Option Value} {x : Str} {a : Addr} {w : Value} {o' : Obj} (hd : o'.data = .cell (some w)) {cl : List (Str × Addr)} {cs : Led} (h : CellsAre cm cl cs) : (cl.map (·.1)).Nodup → (cl.map (·.2)).Nodup → cl.lookup x = some a → CellsAre (setM cm x w) cl (setC a o' cs):=by
  induction h with
  | nil=>exact fun _ _ h=>nS h
  | @cons n c' o cl cs ho r ih =>
    intro nn nc h
    rw [List.map_cons,List.nodup_cons] at nn nc
    rw [List.lookup_cons] at h
    rw [setC_cons]
    cases q : x == n with
    | true =>
      rw [q] at h
      cases h
      have q:=beq_iff_eq.mp q
      subst q
      rw [if_pos rfl]
      exact .cons (by unfold setM; rw [if_pos rfl]; exact hd) (cellsAre_keep r nn.1 nc.1)
    | false =>
      rw [q] at h
      rw [if_neg fun e=>nc.1 (List.mem_map.mpr ⟨(x,a),lookup_mem h,e.symm⟩)]
      exact .cons (by unfold setM; rw [if_neg (Ne.symm (beq_eq_false_iff_ne.mp q))]; exact ho) (ih nn.2 nc.2 h)
theorem cellsAre_addrs {cm : Str → Option Value} {cl : List (Str × Addr)} {cs : Led} (h : CellsAre cm cl cs) : cs.map (·.1) = cl.map (·.2):=by
  induction h with
  | nil=>rfl
  | cons _ _ ih=>rw [List.map_cons,List.map_cons,ih]
theorem lk_put {α : Type} {x : Str} {v : α} (l : List (Str × α)) (y : Str) : lk y (put x v l) = if x = y then some v else lk y l:=by
  induction l with
  | nil=>exact lk_cons y (x,v) []
  | cons p r ih =>
    rw [put_cons]
    by_cases h : p.1 = x
    · rw [if_pos h,lk_cons,lk_cons,h]
      by_cases q : x = y
      · rw [if_pos q,if_pos q]
      · rw [if_neg q,if_neg q,if_neg q]
    · rw [if_neg h,lk_cons,lk_cons,ih]
      by_cases q : p.1 = y
      · rw [if_pos q,if_pos q,if_neg fun z=>h (q.trans z.symm)]
      · rw [if_neg q,if_neg q]
noncomputable abbrev Ct.set (c : Ct) (m : Str → Option Value) (cells : Led) : Ct:={ c with m:=m,cells:=cells }
structure Fs (G : Cx) (c : Ct) (env : Env) (sc : Scope) (m cm : Str → Option Value) (cs rest : Led) (W : Wd) (ρ : Rho) (σ : Sto) (h : Heap) : Prop extends Fx G (c.set m (cs ++ rest)) env sc cm W ρ σ h where
  own : CellsAre cm env.cells cs
  ndn : (env.cells.map (·.1)).Nodup
  ndc : (cs.map (·.1)).Nodup
  off : ∀ p ∈ cs,∀ q ∈ rest,p.1 ≠ q.1
  keptR : ∀ p ∈ G.kept,p ∈ rest
  has : ∀ x,lk x sc.names = some .cell → (env.cells.lookup x).isSome = true
section
variable {G : Cx} {c : Ct} {env : Env} {sc : Scope} {m cm : Str → Option Value} {cs rest : Led} {W : Wd} {ρ : Rho} {σ : Sto} {h h' : Heap}
theorem Fs.back {W' : Wd} {σ' : Sto} (X : Fs G c env sc m cm cs rest W ρ σ h) (Y : Fy G (c.set m (cs ++ rest)) W' σ' h') (x : More W W') : Fs G c env sc m cm cs rest W' ρ σ' h':=⟨X.toFx.back Y x,X.own,X.ndn,X.ndc,X.off,X.keptR,X.has⟩
theorem Fs.other {r' : Led} (X : Fs G c env sc m cm cs rest W ρ σ h) (Y : Fy G (c.set m (cs ++ r')) W σ h') (ho : ∀ p ∈ cs,∀ q ∈ r',p.1 ≠ q.1) (hk : ∀ p ∈ G.kept,p ∈ r') : Fs G c env sc m cm cs r' W ρ σ h' :=
  ⟨⟨Y,X.L,X.E,⟨cs,X.own,fun p hp=>List.mem_append_left _ hp⟩,X.V⟩,X.own,X.ndn,X.ndc,ho,hk,X.has⟩
theorem mem_mid {α : Type} {a b : List α} {x p : α} : p ∈ a ++ x :: b ↔ p = x ∨ p ∈ a ++ b:=by rw [List.mem_append,List.mem_cons,List.mem_append,or_left_comm]
theorem Fs.turn {I : Addr} {o o' : Obj} (X : Fs G c env sc m cm cs ((I,o) :: rest) W ρ σ h) (hr : ∀ p ∈ rest,p.1 ≠ I) (hn : NoCT o) (hs : Heap.SameBut I h h') (ho : h'.get? I = some o') (hk : ∀ p ∈ G.kept,p ∈ rest) : Fs G c env sc m cm cs ((I,o') :: rest) W ρ σ h' :=
  X.other (X.Y.cellTo (c:=c.set m (cs ++ (I,o) :: rest)) (o':=o') (mem_mid.mpr (.inl rfl)) hn hs (fun p hp=>(mem_mid.mp hp).imp (fun e=>⟨e,ho⟩) fun hp=>⟨mem_mid.mpr (.inr hp),(List.mem_append.mp hp).elim (fun hp=>X.off p hp (I,o) (.head _)) (hr p)⟩) fun p hp=>mem_mid.mpr (.inr (List.mem_append_right _ (hk p hp))))
    (fun p hp q hq=>(List.mem_cons.mp hq).elim (fun e=>e ▸ X.off p hp (I,o) (.head _)) fun hq=>X.off p hp q (.tail _ hq)) fun p hp=>.tail _ (hk p hp)
theorem Fs.letGo {I : Addr} {o : Obj} (X : Fs G c env sc m cm cs ((I,o) :: rest) W ρ σ h) (hr : ∀ p ∈ rest,p.1 ≠ I) (hn : NoCT o) (hs : Heap.SameBut I h h') (hk : ∀ p ∈ G.kept,p ∈ rest) : Fs G c env sc m cm cs rest W ρ σ h' :=
  X.other (X.Y.cellTo (c:=c.set m (cs ++ (I,o) :: rest)) (o':=o) (mem_mid.mpr (.inl rfl)) hn hs (fun p hp=>.inr ⟨mem_mid.mpr (.inr hp),(List.mem_append.mp hp).elim (fun hp=>X.off p hp (I,o) (.head _)) (hr p)⟩) fun p hp=>List.mem_append_right _ (hk p hp))
    (fun p hp q hq=>X.off p hp q (.tail _ hq)) hk
end
noncomputable def FlowRel (k : Kn) (o : Out) (f : Flow) : Prop:=@Out.casesOn (fun _=>Prop) o (f = .next) (f = .brk) (f = .cont) fun v=>∃ w,f = .ret w ∧ RelV k v w
noncomputable def StPost (G : Cx) (c : Ct) (env : Env) (sc : Scope) (rest : Led) (W : Wd) (out : Out) (ρ : Rho) (σ : Sto) (Q : Flow → Shared → Prop) (s : Shared) : Prop :=
  ∀ ⦃m cm cs h tk W' fl⦄,Fs G c env sc m cm cs rest W' ρ σ h → More W W' → FlowRel W'.kn out fl → Q fl { s with heap:=h,toks:=tk }
noncomputable def StT (G : Cx) (n : Nat) (sc : Scope) (st : Stmt) (ρ : Rho) (σ : Sto) (out : Out) (ρ' : Rho) (σ' : Sto) : Prop :=
  ∀ ⦃c : Ct⦄ ⦃env : Env⦄ ⦃m cm : Str → Option Value⦄ ⦃cs rest : Led⦄ ⦃W : Wd⦄ ⦃E : Value → Shared → Prop⦄ ⦃Q : Flow → Shared → Prop⦄ ⦃s : Shared⦄,Room n c.A → Fs G c env sc m cm cs rest W ρ σ s.heap → StPost G c env sc rest W out ρ' σ' Q s → wpAny G.M c.A (exec st env) Q E s
noncomputable def ExT (G : Cx) (n : Nat) (sc : Scope) (l : List Stmt) (ρ : Rho) (σ : Sto) (out : Out) (ρ' : Rho) (σ' : Sto) : Prop :=
  ∀ ⦃c : Ct⦄ ⦃env : Env⦄ ⦃m cm : Str → Option Value⦄ ⦃cs rest : Led⦄ ⦃W : Wd⦄ ⦃E : Value → Shared → Prop⦄ ⦃Q : Flow → Shared → Prop⦄ ⦃s : Shared⦄,Room n c.A → Fs G c env sc m cm cs rest W ρ σ s.heap → StPost G c env sc rest W out ρ' σ' Q s → wpAny G.M c.A (execs l env) Q E s
noncomputable abbrev U3 {α β γ : Type} (P : α → β → γ → Prop) (r : α × β × γ) : Prop:=P r.1 r.2.1 r.2.2
noncomputable def ExOk (G : Cx) (n : Nat) (ex : Scope → List Stmt → Rho → Sto → Option (Out × Rho × Sto)) : Prop:=∀ sc l ρ σ,Sat (ex sc l ρ σ) (U3 (ExT G n sc l ρ σ))
theorem StPost.tr {G : Cx} {c : Ct} {env : Env} {sc : Scope} {rest : Led} {W W₁ : Wd} {out : Out} {ρ : Rho} {σ : Sto} {Q : Flow → Shared → Prop} {s : Shared} {h : Heap} {tk : Nat} (k : StPost G c env sc rest W out ρ σ Q s) (m : More W W₁) : StPost G c env sc rest W₁ out ρ σ Q { s with heap:=h,toks:=tk }:=fun _ _ _ _ _ _ _ X m' f=>k X (m.trans m') f
theorem Sat.o3 {α β γ δ : Type} {x : Option (α × β × γ)} {f : α → β → γ → Option δ} {P : δ → Prop} {Q : α → β → γ → Prop} (h : Sat x (U3 Q)) (k : ∀ a b c,Q a b c → Sat (f a b c) P) : Sat (Mine.o3 x f) P:=.ob fun a q e=>k a q.1 q.2 (h e)
theorem VarOk.put {sc : Scope} {k : Kn} {ρ : Rho} {m cm m' cm' : Str → Option Value} {cl : List (Str × Addr)} {x : Str} {sv : SV} {w : Value} (V : VarOk sc k ρ m cm cl) (r : RelV k sv w) (h1 : ∀ y,y ≠ x → m' y = m y) (h2 : ∀ y,y ≠ x → cm' y = cm y) (h3 : lk x sc.names = some .local → m' x = some w) (h4 : lk x sc.names = some .cell ∨ lk x sc.names = some .free → cm' x = some w ∧ (cl.lookup x).isSome = true) : VarOk sc k (Mine.put x sv ρ) m' cm' cl:=fun y sv' e=>by
  rw [lk_put] at e
  by_cases q : x = y
  · subst q
    rw [if_pos rfl] at e
    cases e
    exact ⟨fun h=>⟨w,h3 h,r⟩,fun h=>⟨w,(h4 h).1,(h4 h).2,r⟩⟩
  · rw [if_neg q] at e
    rw [h1 y (Ne.symm q),h2 y (Ne.symm q)]
    exact V y sv' e
theorem noCT_cell {o : Obj} {v : Option Value} (h : o.data = .cell v) : NoCT o:=fun vs e=>by rw [e] at h; exact nomatch h
section
variable {G : Cx} {n : Nat} {R : Rec} {c : Ct} {env : Env} {sc : Scope} {m cm : Str → Option Value} {cs rest : Led} {W : Wd} {ρ ρ' : Rho} {σ σ' : Sto} {E : Value → Shared → Prop} {s : Shared} {x : Str} {sv : SV} {w : Value}
theorem Fs.plainKind {h : Heap} (X : Fs G c env sc m cm cs rest W ρ σ h) : (env.scope.kind == .class || (env.scope.kind == .module && env.locals != env.globals)) = false:=by rw [X.E.kind]; rfl
noncomputable def NmT (G : Cx) (c : Ct) (env : Env) (sc : Scope) (rest : Led) (W : Wd) (ρ : Rho) (σ : Sto) (Q : Unit → Shared → Prop) (s : Shared) : Prop:=∀ ⦃m cm cs h tk⦄,Fs G c env sc m cm cs rest W ρ σ h → Q () { s with heap:=h,toks:=tk }
theorem storeLocal (X : Fs G c env sc m cm cs rest W ρ σ s.heap) (hx : lk x sc.names = some .local) (r : RelV W.kn sv w) {Q : Unit → Shared → Prop} (k : NmT G c env sc rest W (put x sv ρ) σ Q s) : wpAny G.M c.A (storeName env x w) Q E s:=by
  have L : c.L = env.locals:=X.L
  refine wpAny_storeName_local (X.E.names x _ hx) (L ▸ X.Y.F.ns) (fun h' hn hs=>?_) X.plainKind
  have Y : Fy G (c.set (setM m x w) (cs ++ rest)) W σ h':=⟨⟨X.Y.Z.B,X.Y.Z.fro,X.Y.Z.X,X.Y.Z.T,X.Y.Z.kept⟩,L ▸ (L.symm ▸ X.Y.F : Fr c.h₀ env.locals s.heap m).set hn hs,L ▸ (L.symm ▸ X.Y.N : News c.h₀ env.locals s.heap _).set hs,X.Y.lo,X.Y.AC,X.Y.S⟩
  exact k ⟨⟨Y,X.L,X.E,X.C,X.V.put r (fun y q=>if_neg q) (fun _ _=>rfl) (fun _=>if_pos rfl) fun h=>by rw [hx] at h; rcases h with h | h <;> exact nomatch h⟩,X.own,X.ndn,X.ndc,X.off,X.keptR,X.has⟩
theorem storeCell (X : Fs G c env sc m cm cs rest W ρ σ s.heap) (hx : lk x sc.names = some .cell) (r : RelV W.kn sv w) {Q : Unit → Shared → Prop} (k : NmT G c env sc rest W (put x sv ρ) σ Q s) : wpAny G.M c.A (storeName env x w) Q E s:=by
  obtain ⟨a,hc⟩:=Option.isSome_iff_exists.mp (X.has x hx)
  obtain ⟨o,hm,hd⟩:=cells_at X.own hc
  have hI:=X.Y.N (a,o) (mem3.mpr (.inl (List.mem_append_left _ hm)))
  refine wpAny_storeName_cell X.E.kind (X.E.names x _ hx) hc ⟨o,hI.1,hd⟩ fun h' hv hs=>?_
  obtain ⟨o',ho',hd'⟩:=hv
  have ea:=cellsAre_addrs X.own
  have own:=cellsAre_set hd' X.own X.ndn (ea ▸ X.ndc) hc
  have addrS : ∀ p ∈ setC a o' cs,∃ q ∈ cs,q.1 = p.1:=fun p hp=>(mem_setC hp).elim (fun e=>⟨_,hm,by rw [e]⟩) fun h=>⟨p,h.1,rfl⟩
  have Y : Fy G (c.set m (setC a o' cs ++ rest)) W σ h':=X.Y.cellTo (c:=c.set m (cs ++ rest)) (o':=o') (List.mem_append_left _ hm) (noCT_cell hd) hs (fun p hp=>(List.mem_append.mp hp).elim (fun hp=>(mem_setC hp).imp (fun e=>⟨e,ho'⟩) fun h=>⟨List.mem_append_left _ h.1,h.2⟩) fun hp=>.inr ⟨List.mem_append_right _ hp,Ne.symm (X.off (a,o) hm p hp)⟩) fun p hp=>List.mem_append_right _ (X.keptR p hp)
  exact k (tk:=s.toks) ⟨⟨Y,X.L,X.E,⟨_,own,fun p hp=>List.mem_append_left _ hp⟩,X.V.put r (fun _ _=>rfl) (fun y q=>if_neg q) (fun h=>by rw [hx] at h; exact nomatch h) fun _=>⟨if_pos rfl,by rw [hc]; rfl⟩⟩,own,X.ndn,by rw [setC_addrs]; exact X.ndc,fun p hp q hq=>(addrS p hp).elim fun p' h=>h.2 ▸ X.off p' h.1 q hq,X.keptR,X.has⟩
theorem storeName_s (X : Fs G c env sc m cm cs rest W ρ σ s.heap) (hk : isVar sc x = true) (r : RelV W.kn sv w) {Q : Unit → Shared → Prop} (k : NmT G c env sc rest W (put x sv ρ) σ Q s) : wpAny G.M c.A (storeName env x w) Q E s:=by
  unfold isVar at hk
  cases e : lk x sc.names with
  | none=>rw [e] at hk; exact nT hk
  | some q =>
    rw [e] at hk
    induction q with
    | «local»=>exact storeLocal X e r k
    | cell=>exact storeCell X e r k
    | _=>exact nT hk
end
section
variable {G : Cx} {c : Ct} {W : Wd} {σ : Sto} {E : Value → Shared → Prop} {s : Shared}
theorem setI_s {v i y : SV} {va vi vy : Value} {Q : Unit → Shared → Prop} (Y : Fy G c W σ s.heap) (ra : RelV W.kn v va) (ri : RelV W.kn i vi) (ry : RelV W.kn y vy) : Sat (setI v i y σ) fun σ'=>PostB G c W σ' (Q ()) s → wpAny G.M c.A (setItem va vi vy) Q E s:=fun σ' e=>by
  refine Sat.vRef (P:=fun v σ'=>RelV W.kn v va → PostB G c W σ' (Q ()) s → wpAny G.M c.A (setItem va vi vy) Q E s) (fun r=>fun σ' e ra=>?_) e ra
  refine Sat.vD (P:=fun i σ'=>RelV W.kn i vi → PostB G c W σ' (Q ()) s → wpAny G.M c.A (setItem va vi vy) Q E s) (fun x=>.dK (P:=fun x σ'=>RelV W.kn (.d x) vi → PostB G c W σ' (Q ()) s → wpAny G.M c.A (setItem va vi vy) Q E s) (fun kk=>?_) (fun x=>?_) fun _=>.no) e ri
  · refine fun σ' e=>Sat.vD (P:=fun y σ'=>RelV W.kn y vy → RelV W.kn (.d (.int kk)) vi → PostB G c W σ' (Q ()) s → wpAny G.M c.A (setItem va vi vy) Q E s) (fun y=>.ix (P:=fun kk σ'=>RelV W.kn (.d y) vy → RelV W.kn (.d (.int kk)) vi → PostB G c W σ' (Q ()) s → wpAny G.M c.A (setItem va vi vy) Q E s) fun n hn=>.aDl fun xs e1=>.gle fun hz=>.yes fun ry ri k=>?_) e ry
    obtain ⟨t,rfl⟩:=ri
    rw [K.lset_eq,K.lset_eq] at k
    rw [K.len_eq] at hz
    refine Y.ref (P:=fun va=>wpAny G.M c.A (setItem va (.int n t) vy) Q E s) e1 ra fun a ob hl ro hg=>?_
    obtain ⟨ws,m,rfl,rd⟩:=ro
    refine ki_setAt hg (Int.natCast_nonneg n) (Int.lt_trans (Int.ofNat_lt.mpr hn) (by decide)) (by rw [List.size_toArray,All2.length rd]; exact Int.ofNat_lt.mpr hz) ?_
    obtain ⟨n',hg'⟩:=upd_list hg (·.setIfInBounds n vy)
    exact k (Y.upd (o:=.dl (xs.set n y)) hl (noCT_list _ _) (Heap.SameBut.update ..) hg' ⟨ws.set n vy,n',by rw [List.setIfInBounds_toArray],All2.set (show RelD W.tps y vy from ry) rd⟩) (More.set hl)
  · refine .aDi fun es e1=>.glen fun hz=>.yes fun ri k=>?_
    obtain ⟨t,rfl⟩:=ri
    rw [K.lset_eq] at k
    refine Y.ref (P:=fun va=>wpAny G.M c.A (setItem va (.str x t) vy) Q E s) e1 ra fun a ob hl ro hg=>?_
    obtain ⟨nd,kvs,hd,rk⟩:=relO_di (prog:=pw) ro
    refine wpAny_setItem_pairs (hsz:=by rw [rk.length]; exact le1000 (Nat.le_trans hz (by decide))) (strKind_is pw G.w x t) (Heap.dictOf_iff.mpr ⟨_,hg,hd⟩) fun h' hm' hs=>?_
    obtain ⟨ob',ho',hd'⟩:=Heap.dictOf_iff.mp hm'
    exact k (Y.upd (o:=.di (put x y es)) hl (noCT_dictOf hd) hs ho' (relO_of hd' (rk.put ry nd))) (More.set hl)
end
structure ExprS (e : Expr) : Prop where
  fold : known e = true → ∀ (env : Env) (x : Value),foldedSetIterable e env x = pure x
  swap : isComp e = false → ∀ (t : Option Expr) (l : Nat) (env : Env),swapsWith e t l env = pure false
  attr : ∀ (o : Expr) (x : Str) (p : Pos) (l : Nat) (env : Env),swapsWith e (some (.Attribute o x p)) l env = pure false
  sub : ∀ (o i : Expr) (p : Pos) (l : Nat) (env : Env),swapsWith e (some (.Subscript o i p)) l env = pure false
  sole : ∀ (ts : List Expr) (k : Nat) (p : Pos) (l : Nat) (env : Env),swapsWithSole [.Tuple ts k p] e l env = pure false
  tup : noTup e = true → ∀ (ts : List Expr) (k : Nat) (p : Pos) (env : Env),swappedStores [.Tuple ts k p] e env = pure none
  comp : known e = true → isComp e = true → ∃ elt gs sc p,e = .ListComp elt gs sc p
  one : ∀ (env : Env),(∀ x p,swappedStores [.Name x p] e env = pure none) ∧ (∀ o x p,swappedStores [.Attribute o x p] e env = pure none) ∧ ∀ o i p,swappedStores [.Subscript o i p] e env = pure none
theorem exprS (e : Expr) : ExprS e:=by
  refine @Expr.casesOn (fun e=>ExprS e) e ?_ ?_ ?_ ?_ ?_ ?_ ?_ ?_ ?_ ?_ ?_ ?_ ?_ ?_ ?_ ?_ ?_ ?_ ?_ ?_ ?_ ?_ ?_ ?_ ?_ ?_ ?_ <;> intros
  all_goals constructor
  all_goals first | exact nT | exact fun h=>nT h.symm | exact fun _=>nT | exact fun _ _=>⟨_,_,_,_,rfl⟩ | exact fun _ _ _=>rfl | exact fun _ _ _ _=>rfl | exact fun _ _ _ _ _=>rfl | exact fun _=>⟨fun _ _=>rfl,fun _ _ _=>rfl,fun _ _ _=>rfl⟩
inductive TgtK : Expr → Prop
  | name (x p) : TgtK (.Name x p) | attr (o x p) : TgtK (.Attribute o x p) | sub (o i p) : TgtK (.Subscript o i p)
theorem Sat.eName {γ : Type} {e : Expr} {f : Str → Option γ} {P : γ → Prop} (k : ∀ x p,e = .Name x p → Sat (f x) P) : Sat (eName e f none) P:=by
  unfold Mine.eName
  cases h : kName (kindOf e) with
  | none=>exact .no
  | some x=>exact ((exprF e).name h).elim fun p hp=>k x p hp
theorem Sat.eTup {γ : Type} {e : Expr} {f : List Expr → Option γ} {d : Option γ} {P : γ → Prop} (k : ∀ es c p,e = .Tuple es c p → Sat (f es) P) (k' : Sat d P) : Sat (eTup e f d) P:=by
  unfold Mine.eTup
  cases h : kTup (kindOf e) with
  | none=>exact k'
  | some x=>obtain ⟨c,p,he⟩:=(exprF e).tup h; exact k x c p he
noncomputable def CmT (G : Cx) (n : Nat) (sc : Scope) (elt : Expr) (gens : List Comprehension) (scope : Scope) (pos : Pos) (ρ : Rho) (σ : Sto) (sv : SV) (σ' : Sto) : Prop :=
  ∀ ⦃c : Ct⦄ ⦃env : Env⦄ ⦃m cm : Str → Option Value⦄ ⦃cs rest : Led⦄ ⦃W : Wd⦄ ⦃E Q : Value → Shared → Prop⦄ ⦃u : Value → Sem Unit⦄ ⦃s : Shared⦄,Room n c.A → Fs G c env sc m cm cs rest W ρ σ s.heap →
    (∀ ⦃C oC mC w h tk W'⦄,(∀ p ∈ rest,p.1 ≠ C) → NoCT oC → Fs G c env sc m cm cs ((C,oC) :: rest) W' ρ σ' h → (∀ h'' : Heap,h''.get? C = some oC → h''.Ns C mC) → RelV W'.kn sv w → More W W' →
      wpAny G.M c.A (u w) (fun _ s''=>∃ mC',s''.heap.Ns C mC' ∧ ∀ h'',Heap.SameBut C s''.heap h'' → Q .none { s'' with heap:=h'' }) E { s with heap:=h,toks:=tk }) →
    wpAny G.M c.A (comprehension (.ListComp elt gens scope pos) scope env (firstIterPos gens pos) (newList []) (firstAsync gens) (firstIter gens env) (some u)) Q E s
noncomputable def CmOk (G : Cx) (n : Nat) (ev : Scope → Expr → Rho → Sto → Option (SV × Sto)) : Prop:=∀ sc elt gens scope pos ρ σ,Sat (ev sc (.ListComp elt gens scope pos) ρ σ) (U2 (CmT G n sc elt gens scope pos ρ σ))
noncomputable def StoT (G : Cx) (c : Ct) (env : Env) (sc : Scope) (rest : Led) (W : Wd) (ρ : Rho) (σ : Sto) (Q : Unit → Shared → Prop) (s : Shared) : Prop:=∀ ⦃m cm cs h tk W'⦄,Fs G c env sc m cm cs rest W' ρ σ h → More W W' → Q () { s with heap:=h,toks:=tk }
structure StoreT (G : Cx) (n : Nat) (sc : Scope) (t : Expr) (sv : SV) (ρ : Rho) (σ : Sto) (ρ' : Rho) (σ' : Sto) : Prop where
  tgt : TgtK t
  run : ∀ ⦃c : Ct⦄ ⦃env : Env⦄ ⦃m cm : Str → Option Value⦄ ⦃cs rest : Led⦄ ⦃W : Wd⦄ ⦃E : Value → Shared → Prop⦄ ⦃Q : Unit → Shared → Prop⦄ ⦃s : Shared⦄ ⦃w : Value⦄,Room n c.A → Fs G c env sc m cm cs rest W ρ σ s.heap → RelV W.kn sv w → StoT G c env sc rest W ρ' σ' Q s → wpAny G.M c.A (assign t env w) Q E s
section
variable {G : Cx} {n : Nat} {R : Rec} {c : Ct} {env : Env} {sc : Scope} {m cm : Str → Option Value} {cs rest : Led} {W : Wd} {ρ ρ' : Rho} {σ σ₁ σ₂ σ' : Sto} {E : Value → Shared → Prop} {s : Shared} {sv v kv : SV} {o i : Expr}
theorem EvT.st {e : Expr} (h : EvT G n sc e ρ σ v σ₁) (hA : Room n c.A) (X : Fs G c env sc m cm cs rest W ρ σ s.heap) {Q : Value → Shared → Prop} (k : ∀ ⦃va h tk W'⦄,Fs G c env sc m cm cs rest W' ρ σ₁ h → RelV W'.kn v va → More W W' → Q va { s with heap:=h,toks:=tk }) : wpAny G.M c.A (eval e env) Q E s:=h (c:=c.set m (cs ++ rest)) hA X.toFx fun _ _ _ _ Y r m=>k (X.back Y m) r m
theorem TstT.st {e : Expr} {b : Bool} (h : TstT G n sc e ρ σ b σ₁) (hA : Room n c.A) (X : Fs G c env sc m cm cs rest W ρ σ s.heap) {Q : Bool → Shared → Prop} (k : ∀ ⦃h tk W'⦄,Fs G c env sc m cm cs rest W' ρ σ₁ h → More W W' → Q b { s with heap:=h,toks:=tk }) : wpAny G.M c.A (PySem.isTrue e env (eval e env)) Q E s:=h (c:=c.set m (cs ++ rest)) hA X.toFx fun _ _ _ Y m=>k (X.back Y m) m
theorem StoreT.name {x : Str} {p : Pos} (hv : isVar sc x = true) : StoreT G n sc (.Name x p) sv ρ σ (put x sv ρ) σ:=⟨.name x p,fun c env m cm cs rest W E Q s w hA X r k=>PySem.wpAny_assign_Name (storeName_s X hv r fun m' cm' cs' h' tk X'=>k X' (Kn.Le.refl _))⟩
theorem StoreT.attr (ok : AttrsOk G) {x : Str} {p : Pos} (h : EvT G n sc o ρ σ v σ₁) (h2 : setA v x sv σ₁ = some σ₂) : StoreT G n sc (.Attribute o x p) sv ρ σ ρ σ₂:=⟨.attr o x p,fun c env m cm cs rest W E Q s w hA X r k=>by
  rw [assign_Attribute]
  exact wpAny_bind (wpAny_holding (h.st hA X fun va h₁ tk₁ W₁ X₁ r₁ m₁=>wpAny_bind (wpAny_standAt (wpAny_bind (wpAny_holding (setA_s ok (s:={ s with heap:=h₁,toks:=tk₁ }) X₁.Y r₁ (r.mono m₁) h2 fun h' tk W' Y' m'=>wpAny_release (k (X₁.back Y' m') (m₁.trans m'))))))))⟩
theorem StoreT.sub {p : Pos} (h : EvT G n sc o ρ σ v σ₁) (hi : EvT G n sc i ρ σ₁ kv σ₂) (h2 : setI v kv sv σ₂ = some σ') : StoreT G n sc (.Subscript o i p) sv ρ σ ρ σ':=⟨.sub o i p,fun c env m cm cs rest W E Q s w hA X r k=>by
  rw [assign_Subscript]
  exact wpAny_bind (wpAny_holding (h.st hA X fun va h₁ tk₁ W₁ X₁ r₁ m₁=>wpAny_bind (wpAny_holding (hi.st (s:={ s with heap:=h₁,toks:=tk₁ }) hA X₁ fun vi h₂ tk₂ W₂ X₂ r₂ m₂=>wpAny_bind (wpAny_standAt (wpAny_bind (wpAny_holding (setI_s (s:={ s with heap:=h₂,toks:=tk₂ }) X₂.Y (r₁.mono m₂) r₂ ((r.mono m₁).mono m₂) h2 fun h' tk W' Y' m'=>wpAny_release (k (X₂.back Y' m') ((m₁.trans m₂).trans m'))))))))))⟩
theorem storeT_s (ok : AttrsOk G) (ev : EvOk G n R.ev) (t : Expr) : Sat (storeT R sc t sv ρ σ) (U2 (StoreT G n sc t sv ρ σ)):=by
  refine @Expr.casesOn (fun t=>Sat (storeT R sc t sv ρ σ) (U2 (StoreT G n sc t sv ρ σ))) t ?_ ?_ ?_ ?_ ?_ ?_ ?_ ?_ ?_ ?_ ?_ ?_ ?_ ?_ ?_ ?_ ?_ ?_ ?_ ?_ (fun o x p=>.bS (ev sc o ρ σ) fun v σ₁ h=>.om (P:=U2 (StoreT G n sc (.Attribute o x p) sv ρ σ)) (f:=fun σ=>(ρ,σ)) fun σ₂ h2=>StoreT.attr ok h h2) (fun o i p=>.gd fun _=>.bS (ev sc o ρ σ) fun v σ₁ h=>.bS (ev sc i ρ σ₁) fun kv σ₂ hi=>.om (P:=U2 (StoreT G n sc (.Subscript o i p) sv ρ σ)) (f:=fun σ=>(ρ,σ)) fun σ₃ h2=>StoreT.sub h hi h2) ?_ (fun x p=>.gd fun hv=>.yes (r:=(put x sv ρ,σ)) (StoreT.name hv)) ?_ ?_ ?_ <;> intros
  all_goals exact .no
structure NsT (G : Cx) (sc : Scope) (ts : List Expr) (vs : List SV) (ρ ρ' : Rho) : Prop where
  len : ∀ env : Env,(assignEach ts env).length = vs.length ∧ (assignEach ts env).findIdx? (·.1) = none
  run : ∀ ⦃c : Ct⦄ ⦃env : Env⦄ ⦃m cm : Str → Option Value⦄ ⦃cs rest : Led⦄ ⦃W : Wd⦄ ⦃σ : Sto⦄ ⦃E : Value → Shared → Prop⦄ ⦃Q : Unit → Shared → Prop⦄ ⦃s : Shared⦄ ⦃ws : List Value⦄,Fs G c env sc m cm cs rest W ρ σ s.heap → RelVs W.kn vs ws → NmT G c env sc rest W ρ' σ Q s → wpAny G.M c.A (assignInOrder ((assignEach ts env).map (·.2)) ws) Q E s
theorem storeNs_s (ts : List Expr) : ∀ vs ρ,Sat (storeNs sc ts vs ρ) (NsT G sc ts vs ρ):=by
  induction ts with
  | nil=>exact fun vs ρ=>.l0 (P:=fun vs=>NsT G sc [] vs ρ) (.yes ⟨fun env=>⟨rfl,rfl⟩,fun c env m cm cs rest W σ E Q s ws X r k=>r.el0 (P:=fun ws=>wpAny G.M c.A (assignInOrder [] ws) Q E s) (wpAny_pure (k (tk:=s.toks) X))⟩)
  | cons t ts ih =>
    refine fun vs ρ=>.lc (P:=fun vs=>NsT G sc (t :: ts) vs ρ) fun v vs=>.eName fun x p ht=>.gd fun hv=>(ih vs (put x v ρ)).mono fun ρ' h=>?_
    subst ht
    refine ⟨fun env=>⟨congrArg (· + 1) (h.len env).1,?_⟩,fun c env m cm cs rest W σ E Q s ws X r k=>r.el (P:=fun ws=>wpAny G.M c.A (assignInOrder ((assignEach (.Name x p :: ts) env).map (·.2)) ws) Q E s) fun w ws r1 r2=>?_⟩
    · show ((false,assign (.Name x p) env) :: assignEach ts env).findIdx? (·.1) = none
      rw [List.findIdx?_cons,(h.len env).2]
      rfl
    · show wpAny _ _ (do holding ws (assign (.Name x p) env w); assignInOrder ((assignEach ts env).map (·.2)) ws) Q E s
      exact wpAny_bind (wpAny_holding (PySem.wpAny_assign_Name (storeName_s X hv r1 fun m' cm' cs' h' tk X'=>h.run (s:={ s with heap:=h',toks:=tk }) X' r2 fun m'' cm'' cs'' h'' tk' X''=>k X'')))
end
section
variable {G : Cx} {n : Nat} {c : Ct} {W : Wd} {σ : Sto} {E : Value → Shared → Prop} {s : Shared}
noncomputable def UnpT (G : Cx) (c : Ct) (W : Wd) (σ : Sto) (E : Value → Shared → Prop) (s : Shared) (va : Value) (vs : List SV) : Prop:=∀ ⦃k : Nat⦄ ⦃Q : List Value → Shared → Prop⦄,k = vs.length → (∀ ⦃ws h⦄,Fy G c W σ h → RelVs W.kn vs ws → Q ws { s with heap:=h }) → wpAny G.M c.A (unpackItems va k none) Q E s
theorem itemsOf_s (hA : c.A.handled = none) {v : SV} {va : Value} (Y : Fy G c W σ s.heap) (r : RelV W.kn v va) : Sat (itemsOf σ v) (UnpT G c W σ E s va):=fun vs e=>by
  have lst : ∀ {i : Nat} {vs : List SV} {o : SO},σ[i]? = some o → (∀ {ob},RelO G.V W.kn o ob → LsR ob (RelVs W.kn vs)) → RelV W.kn (.ref i) va → UnpT G c W σ E s va vs:=fun {i vs o} e1 h r k Q hk q=>Y.ref (P:=fun va=>wpAny G.M c.A (unpackItems va k none) Q E s) e1 r fun a ob hl ro hg=>by
    obtain ⟨ws,n,rfl,rd⟩:=h ro
    exact kun_items Y.F Y.N (l:=a) (items:=ws.toArray) ⟨_,hg,rfl,n,rfl⟩ hA (by rw [hk,List.size_toArray,All2.length rd]) fun h' F' N'=>q (Y.at' F' N') rd
  have tup : ∀ {vs : List SV} {a : Addr} {ws : List Value},IsTup s.heap a ws.toArray → RelVs W.kn vs ws → UnpT G c W σ E s (.ref a) vs:=fun {vs a ws} ht rd k Q hk q=>unpackItemsN_ Y.F Y.N ht hA (by rw [hk,List.size_toArray,All2.length rd]) fun h' F' N'=>q (Y.at' F' N') rd
  refine Sat.vK (P:=fun v vs=>RelV W.kn v va → UnpT G c W σ E s va vs) (fun x=>.dK (P:=fun x vs=>RelV W.kn (.d x) va → UnpT G c W σ E s va vs) (fun _=>.no) (fun _=>.no) fun xs=>.yes fun r=>relD_at (P:=fun va=>UnpT G c W σ E s va _) Y r fun a ws ht rd=>tup ht (relVs_ofD rd)) (fun i=>.aO fun o e1=>?_) (fun xs=>.yes fun r=>relV_at (P:=fun va=>UnpT G c W σ E s va _) Y r fun a ws ht rd=>tup ht rd) e r
  cases o with
  | dl xs=>exact .yes fun r=>lst e1 (fun r=>LsR.mono r fun ws r=>relVs_ofD r) r
  | ls xs=>exact .yes fun r=>lst e1 (fun r=>r) r
  | _=>exact .no
end
structure It where
  stay : Sto → Prop
  it : Nat → Obj → Prop
  on : Sto → List Addr → Prop
structure It.Ok (G : Cx) (S : It) (items : List SV) : Prop where
  noCT : ∀ {k ob},S.it k ob → NoCT ob
  self : ∀ ⦃A : Around⦄ ⦃E Q : Value → Shared → Prop⦄ ⦃s : Shared⦄ ⦃I : Addr⦄ ⦃ob : Obj⦄ ⦃k : Nat⦄,s.heap.get? I = some ob → S.it k ob → Q (.ref I) s → wpAny G.M A (pyIter (.ref I)) Q E s
  keep : ∀ {σ σ' ad ad'},S.on σ ad → S.stay σ' → AdLe ad ad' → S.on σ' ad'
  len : items.length ≤ 2000
  item : ∀ ⦃c : Ct⦄ ⦃W : Wd⦄ ⦃σ : Sto⦄ ⦃E : Value → Shared → Prop⦄ ⦃Q : Option Value → Shared → Prop⦄ ⦃s : Shared⦄ ⦃I : Addr⦄ ⦃ob : Obj⦄ ⦃k : Nat⦄ ⦃v : SV⦄,S.on σ W.kn.ad → s.heap.get? I = some ob → S.it k ob → Fy G c W σ s.heap → items[k]? = some v →
    (∀ ⦃h o' w tk⦄,S.it (k + 1) o' → h.get? I = some o' → Heap.SameBut I s.heap h → RelV W.kn v w → Q (some w) { s with heap:=h,toks:=tk }) → wpAny G.M c.A (pyNext (.ref I)) Q E s
  fin : ∀ ⦃c : Ct⦄ ⦃W : Wd⦄ ⦃σ : Sto⦄ ⦃E : Value → Shared → Prop⦄ ⦃Q : Option Value → Shared → Prop⦄ ⦃s : Shared⦄ ⦃I : Addr⦄ ⦃ob : Obj⦄ ⦃k : Nat⦄,c.A.handled = none → S.on σ W.kn.ad → s.heap.get? I = some ob → S.it k ob → Fy G c W σ s.heap → items.length ≤ k →
    (∀ ⦃h⦄,Heap.ExtBut I s.heap h → Q none { s with heap:=h }) → wpAny G.M c.A (pyNext (.ref I)) Q E s
noncomputable def lstI (i : Nat) (o : SO) (ax : Addr) : It:=⟨fun σ=>σ[i]? = some o,fun k ob=>ob.cls = .type "list_iterator" ∧ ob.data = .fields #[.ref ax,.int k 0],fun σ ad=>σ[i]? = some o ∧ ad[i]? = some ax⟩
noncomputable def ItemsAre (G : Cx) (o : SO) (items : List SV) : Prop:=∀ ⦃k ob⦄,RelO G.V k o ob → LsR ob (RelVs k items)
theorem noCT_cls {ob : Obj} {x : String} (h : ob.cls = .type x) (hx : x ≠ "tuple") : NoCT ob:=fun vs e=>by rw [e] at h; exact hx (Value.type.inj h).symm
section
variable {G : Cx} {c : Ct} {W : Wd} {σ : Sto} {E : Value → Shared → Prop} {s : Shared} {h : Heap}
theorem lst_at {i : Nat} {o : SO} {ax : Addr} {items : List SV} (hi : ItemsAre G o items) (ha : (lstI i o ax).on σ W.kn.ad) (Y : Fy G c W σ h) : ∃ ws n,h.get? ax = some (listOf (List.toArray ws) n) ∧ RelVs W.kn items ws:=by
  obtain ⟨e1,e2⟩:=ha
  obtain ⟨p,hl,ro⟩:=Y.S.obj e1
  obtain ⟨q,hq,e⟩:=Option.map_eq_some_iff.mp ((List.getElem?_map ..).symm.trans (show (W.led.map (·.1))[i]? = some ax from e2))
  cases hl.symm.trans hq
  obtain ⟨a,ob⟩:=p
  cases (show a = ax from e)
  obtain ⟨ws,n,rfl,rs⟩:=hi ro
  exact ⟨ws,n,Y.get hl,rs⟩
theorem lst_ok {i : Nat} {o : SO} {ax : Addr} {items : List SV} (hi : ItemsAre G o items) (hz : items.length ≤ 1000) : (lstI i o ax).Ok G items where
  noCT h:=noCT_cls h.1 (by decide)
  self A E Q s I ob k hI h q:=wpAny_pyIter_listiter (l:=ax) (i:=k) ⟨ob,hI,h.1,h.2⟩ q
  keep h h1 l:=⟨h1,l _ _ h.2⟩
  len:=Nat.le_trans hz (by decide)
  item c W σ E Q s I ob k v ha hI hk Y hv q:=by
    obtain ⟨ws,n,hg,rs⟩:=lst_at hi ha Y
    obtain ⟨w,hw,rw'⟩:=rs.get hv
    refine wpAny_pyNext_list_item (it:=I) (l:=ax) (i:=k) (items:=ws.toArray) ⟨ob,hI,hk.1,hk.2⟩ ⟨_,hg,rfl,n,rfl⟩ (by simpa using hw) fun h' hit hs=>?_
    obtain ⟨o',ho',h1,h2⟩:=hit
    exact q (tk:=s.toks) ⟨h1,h2⟩ ho' hs rw'
  fin c W σ E Q s I ob k hh ha hI hk Y hv q:=by
    obtain ⟨ws,n,hg,rs⟩:=lst_at hi ha Y
    exact wpAny_pyNext_list_end hh (it:=I) (l:=ax) (i:=k) (items:=ws.toArray) ⟨ob,hI,hk.1,hk.2⟩ ⟨_,hg,rfl,n,rfl⟩ (by simp; rw [rs.length]; exact hv) q
end
noncomputable def rngI (lo : Int) (n : Nat) : It:=⟨fun _=>True,fun k ob=>ob = { cls:=.type "range_iterator",dict:=none,data:=.fields #[rawInt (lo + k),rawInt ((n : Int) - k),rawInt 1],slots:=#[] },fun _ _=>True⟩
theorem range_is {lo : Int} {n : Nat} : range lo (lo + n) = (List.range n).map fun (k : Nat)=>.d (.int (lo + k)):=by
  unfold range
  rw [K.lmap_eq,Int.add_comm,Int.add_sub_cancel]
  rfl
theorem range_get {lo : Int} {n k : Nat} {v : SV} (h : (range lo (lo + n))[k]? = some v) : k < n ∧ v = .d (.int (lo + k)):=by
  rw [range_is,List.getElem?_map] at h
  obtain ⟨j,hj,rfl⟩:=Option.map_eq_some_iff.mp h
  obtain ⟨hlt,hj⟩:=List.getElem?_eq_some_iff.mp hj
  rw [List.getElem_range] at hj
  exact ⟨List.length_range (n:=n) ▸ hlt,by rw [hj]⟩
theorem range_length {lo : Int} {n : Nat} : (range lo (lo + n)).length = n:=by rw [range_is,List.length_map,List.length_range]
theorem rng_ok {G : Cx} {lo : Int} {n : Nat} (hz : n ≤ 2000) : (rngI lo n).Ok G (range lo (lo + n)) where
  noCT h:=noCT_cls (x:="range_iterator") (by rw [show _ = _ from h]) (by decide)
  self A E Q s I ob k hI h q:=by
    subst h
    exact wpAny_pyIter_rangeiter (x:=lo + k) (left:=(n : Int) - k) (step:=1) hI q
  keep _ _ _:=trivial
  len:=range_length ▸ hz
  item c W σ E Q s I ob k v ha hI hk Y hv q:=by
    obtain ⟨hlt,rfl⟩:=range_get hv
    subst hk
    refine wpAny_pyNext_range_item (x:=lo + k) (left:=(n : Int) - k) (step:=1) hI (Int.sub_pos.mpr (Int.ofNat_lt.mpr hlt)) fun h' hit hs=>?_
    rw [Int.add_assoc,Int.sub_sub] at hit
    exact q (tk:=_) rfl hit hs relV_int
  fin c W σ E Q s I ob k hh ha hI hk Y hv q:=by
    rw [range_length] at hv
    subst hk
    exact wpAny_pyNext_range_end hh (x:=lo + k) (left:=(n : Int) - k) (step:=1) hI (Int.sub_nonpos_of_le (Int.ofNat_le.mpr hv)) q
noncomputable def GoT (G : Cx) (n : Nat) (sc : Scope) (e : Expr) (ρ : Rho) (σ : Sto) (M : Prop) (stay : Sto → Prop) (items : List SV) (σ' : Sto) : Prop :=
  ∀ ⦃c : Ct⦄ ⦃env : Env⦄ ⦃cm : Str → Option Value⦄ ⦃W : Wd⦄ ⦃E Q : Value → Shared → Prop⦄ ⦃s : Shared⦄,Room n c.A → Fx G c env sc cm W ρ σ s.heap →
    (∀ ⦃S : It⦄ ⦃I ob h tk W'⦄,M → S.Ok G items → (∀ σ,stay σ → S.stay σ) → S.on σ' W'.kn.ad → S.it 0 ob → (∀ p ∈ c.cells,p.1 ≠ I) → Fx G (c.cell (I,ob)) env sc cm W' ρ σ' h → More W W' → Q (.ref I) { s with heap:=h,toks:=tk }) →
    wpAny G.M c.A (eval e env) (fun x s₁=>wpAny G.M c.A (pyIter x) Q E s₁) E s
section
variable {G : Cx} {n : Nat} {R : Rec} {c : Ct} {env : Env} {sc : Scope} {cm : Str → Option Value} {W : Wd} {ρ : Rho} {σ σ₁ σ' : Sto} {E : Value → Shared → Prop} {s : Shared} {h : Heap} {e : Expr}
theorem Fx.keepC (X : Fx G c env sc cm W ρ σ h) (ob : Obj) (hf : ob.isFreed = false) : Fx G (c.cell (h.objs.size,ob)) env sc cm W ρ σ (h.push ob):=⟨X.Y.keepC ob hf,X.L,X.E,X.C.imp fun cs h=>h.imp_right fun h p hp=>.tail _ (h p hp),X.V⟩
theorem Fx.newC (X : Fx G c env sc cm W ρ σ h) : ∀ p ∈ c.cells,p.1 ≠ h.objs.size:=fun p hp=>X.Y.ne p (mem3.mpr (.inl hp))
theorem GoT.list {i : Nat} {o : SO} {items : List SV} {M : Prop} (he : EvT G n sc e ρ σ (.ref i) σ₁) (h1 : σ₁[i]? = some o) (hm : ∀ ⦃k ob⦄,RelO G.V k o ob → M) (hi : ItemsAre G o items) (hz : M → items.length ≤ 1000) : GoT G n sc e ρ σ M (fun σ=>σ[i]? = some o) items σ₁:=fun c env cm W E Q s hA X k =>
  he.at hA X fun va h₁ tk₁ W₁ X₁ r₁ m₁=>X₁.Y.ref (P:=fun va=>wpAny G.M c.A (pyIter va) Q E _) h1 r₁ fun a ob hl ro hg=>by
    obtain ⟨ws,n,rfl,rs⟩:=hi ro
    have m:=hm ro
    exact wpAny_pyIter_list (l:=a) (items:=ws.toArray) ⟨_,hg,rfl,n,rfl⟩ (k (tk:=tk₁) m (lst_ok (ax:=a) hi (hz m)) (fun _ h=>h) ⟨h1,by show (List.map _ _)[i]? = _; rw [List.getElem?_map,hl]; rfl⟩ ⟨rfl,rfl⟩ X₁.newC (X₁.keepC { cls:=.type "list_iterator",data:=.fields #[.ref a,.int 0 0] } rfl) m₁)
theorem rng_iter (X : Fx G c env sc cm W ρ σ s.heap) {lo b : Int} {r : Addr} {t u v : Tok} {nn : Nat} (hr : IsRange s.heap r lo b 1 t u v) (hb : nn = (b - lo).toNat) (h1 : -1000 ≤ lo ∧ lo ≤ 1000 ∧ -1000 ≤ b ∧ b ≤ 1000) {Q : Value → Shared → Prop}
    (k : ∀ ⦃I ob h tk⦄,(rngI lo nn).it 0 ob → (∀ p ∈ c.cells,p.1 ≠ I) → Fx G (c.cell (I,ob)) env sc cm W ρ σ h → Q (.ref I) { s with heap:=h,toks:=tk }) : wpAny G.M c.A (pyIter (.ref r)) Q E s:=by
  refine wpAny_pyIter_range hr (small_one (by omega) (by omega) (by omega) (by omega)) (k (tk:=s.toks) ?_ X.newC (X.keepC _ rfl))
  show _ = _
  rw [rangeSize_nat,← hb]
  simp
theorem GoT.range {f : Str} {fp cp : Pos} {es : List Expr} {vs : List SV} {lo hi : Int} (ko : KOk G) (hf : isRange sc f ρ = true) (t : EvsT G n sc ρ es σ vs σ₁) (hv : (vs = [.d (.int hi)] ∧ lo = 0) ∨ vs = [.d (.int lo),.d (.int hi)]) (hb : -1000 ≤ lo ∧ lo ≤ 1000 ∧ -1000 ≤ hi ∧ hi ≤ 1000) :
    GoT G n sc (.Call (.Name f fp) es [] cp) ρ σ True (fun _=>True) (Mine.range lo (lo + (hi - lo).toNat)) σ₁:=fun c env cm W E Q s hA X k=>by
  have hf:=bA_i hf
  have hn : ∃ v,nameV sc f ρ = some v ∧ v = .ty .range:=by
    cases q : nameV sc f ρ with
    | none=>have h:=hf.2; rw [q] at h; exact nT h
    | some v =>
      have h:=hf.2
      rw [q] at h
      cases v with
      | ty t=>induction t <;> first | exact ⟨_,rfl,rfl⟩ | exact nT h
      | _=>exact nT h
  obtain ⟨_,hn,rfl⟩:=hn
  rw [show eval (.Call (.Name f fp) es [] cp) env = (do callWith cp (← eval (.Name f fp) env) [] (backTo cp (starEach es env)) (backToKw cp (keywordEach [] env))) from rfl]
  refine wpAny_bind (X.name ko.glob (by rw [seq_eq hf.1]; decide) hn fun vf rf=>?_)
  cases (show vf = .type "range" from rf)
  refine t.call (first:=[]) hA (keepOk_type _) X fun ws h' tk W' X' r m=>?_
  have fin : ∀ {h'' : Heap} {tk'' : Nat} {r : Addr} {t u v : Tok},Fx G c env sc cm W' ρ σ₁ h'' → IsRange h'' r lo hi 1 t u v → wpAny G.M c.A (pyIter (.ref r)) Q E { s with heap:=h'',toks:=tk'' }:=fun {h'' tk'' r t u v} X'' ir =>
    rng_iter (s:={ s with heap:=h'',toks:=tk'' }) X'' ir rfl hb fun I ob h₃ tk₃ hit hne X₃=>k trivial (rng_ok (by omega)) (fun _ h=>h) trivial hit hne X₃ m
  have grow : ∀ ob,Fx G c env sc cm W' ρ σ₁ (h'.push ob):=fun ob=>X'.back (X'.Y.grow ob) (Kn.Le.refl _)
  rcases hv with ⟨rfl,rfl⟩ | rfl
  · obtain ⟨_,rfl,t,rfl⟩:=relVs_one r
    exact call_range_1 (fin (grow { cls:=.type "range",data:=.fields #[.int 0 tk,.int hi t,.int 1 (tk + 1)] }) (IsRange.new ..))
  · obtain ⟨_,_,rfl,⟨t,rfl⟩,⟨t',rfl⟩⟩:=relVs_two r
    exact call_range_2 (fin (grow { cls:=.type "range",data:=.fields #[.int lo t,.int hi t',.int 1 tk] }) (IsRange.new ..))
end
noncomputable def AfterT (st again : Prop) (o : Out) (ρ₁ : Rho) (σ₁ : Sto) (out : Out) (ρ' : Rho) (σ' : Sto) : Prop:=@Out.casesOn (fun _=>Prop) o (st ∧ again) (out = .next ∧ ρ' = ρ₁ ∧ σ' = σ₁) (st ∧ again) fun w=>out = .ret w ∧ ρ' = ρ₁ ∧ σ' = σ₁
noncomputable def Turns (G : Cx) (n : Nat) (sc : Scope) (x : Str) (body : List Stmt) (S : Sto → Prop) : List SV → Rho → Sto → Out → Rho → Sto → Prop:=@List.rec SV (fun _=>Rho → Sto → Out → Rho → Sto → Prop) (fun ρ σ out ρ' σ'=>out = .next ∧ ρ' = ρ ∧ σ' = σ)
  fun v _ ih ρ σ out ρ' σ'=>∃ o ρ₁ σ₁,ExT G n sc body (put x v ρ) σ o ρ₁ σ₁ ∧ AfterT (S σ₁) (ih ρ₁ σ₁ out ρ' σ') o ρ₁ σ₁ out ρ' σ'
theorem Turns.el {G : Cx} {n : Nat} {sc : Scope} {x : Str} {body : List Stmt} {S : Sto → Prop} {r : List SV} {ρ ρ' : Rho} {σ σ' : Sto} {out : Out} {P : Prop} (t : Turns G n sc x body S r ρ σ out ρ' σ') (h : r = [] → out = .next ∧ ρ' = ρ ∧ σ' = σ → P)
    (k : ∀ v r' o ρ₁ σ₁,r = v :: r' → ExT G n sc body (put x v ρ) σ o ρ₁ σ₁ → AfterT (S σ₁) (Turns G n sc x body S r' ρ₁ σ₁ out ρ' σ') o ρ₁ σ₁ out ρ' σ' → P) : P:=by
  cases r with
  | nil=>exact h rfl t
  | cons v r =>
    obtain ⟨o,ρ₁,σ₁,h,a⟩:=t
    exact k v r o ρ₁ σ₁ rfl h a
theorem turnO_s {o : Out} {again : StA} {ρ : Rho} {σ : Sto} {st : Prop} {P : Out → Rho → Sto → Prop} (h : Sat again fun r=>st ∧ P r.1 r.2.1 r.2.2) : Sat (turnO o again ρ σ) fun r=>AfterT st (P r.1 r.2.1 r.2.2) o ρ σ r.1 r.2.1 r.2.2:=by
  induction o with
  | next=>exact h
  | brk=>exact .yes ⟨rfl,rfl,rfl⟩
  | cont=>exact h
  | ret w=>exact .yes ⟨rfl,rfl,rfl⟩
theorem forE_s {G : Cx} {n : Nat} {R : Rec} {sc : Scope} (xk : ExOk G n R.ex) {x : Str} {body : List Stmt} {src : Option (Nat × SO)} {S : Sto → Prop} (hs : ∀ σ,stays src σ = true → S σ) (items : List SV) : ∀ ρ σ,Sat (forE R sc x body src items ρ σ) (U3 (Turns G n sc x body S items ρ σ)):=by
  induction items with
  | nil=>exact fun ρ σ=>.yes ⟨rfl,rfl,rfl⟩
  | cons v r ih =>
    intro ρ σ
    show Sat (o3 (R.ex sc body (put x v ρ) σ) fun o ρ σ=>turnO o (gd (stays src σ) (forE R sc x body src r ρ σ)) ρ σ) _
    exact .o3 (xk sc body _ σ) fun o ρ₁ σ₁ h=>(turnO_s (st:=S σ₁) (P:=Turns G n sc x body S r ρ₁ σ₁) (.gd fun st=>(ih ρ₁ σ₁).mono fun q t=>⟨hs _ st,t⟩)).mono fun q a=>⟨o,ρ₁,σ₁,h,a⟩
theorem after_go {k : Kn} {o : Out} {fl : Flow} {st again : Prop} {ρ₁ ρ' : Rho} {σ₁ σ' : Sto} {out : Out} {n : Nat} {I : Nat → Shared → Prop} {R : Result → Shared → Prop} {s₃ : Shared} (hf : FlowRel k o fl) (a : AfterT st again o ρ₁ σ₁ out ρ' σ') (h1 : st → again → ∃ m,m < n ∧ I m s₃) (h2 : ρ' = ρ₁ → σ' = σ₁ → ∀ fl',FlowRel k out fl' → R (.ok fl') s₃) : match (generalizing:=false) fl with
    | .next | .cont=>∃ m,m < n ∧ I m s₃
    | .brk=>R (.ok .next) s₃
    | .ret v=>R (.ok (.ret v)) s₃:=by
  induction o with
  | next=>cases (show fl = .next from hf); exact h1 a.1 a.2
  | cont=>cases (show fl = .cont from hf); exact h1 a.1 a.2
  | brk=>cases (show fl = .brk from hf); exact h2 a.2.1 a.2.2 .next (by rw [show out = .next from a.1]; rfl)
  | ret w =>
    obtain ⟨w',rfl,rv⟩:=hf
    exact h2 a.2.1 a.2.2 (.ret w') (by rw [show out = .ret w from a.1]; exact ⟨w',rfl,rv⟩)
section
variable {G : Cx} {n : Nat} {c : Ct} {env : Env} {sc : Scope} {m cm : Str → Option Value} {cs rest : Led} {W W' : Wd} {ρ ρ' : Rho} {σ σ₁ σ' : Sto} {E : Value → Shared → Prop} {s : Shared} {h h' : Heap} {I : Addr} {ob o : Obj}
theorem Fy.extTo (Y : Fy G c W σ h) {l : Led} (hI : (I,o) ∈ c.cells) (hn : NoCT o) (hs : Heap.ExtBut I h h') (hl : ∀ p ∈ l,p ∈ c.cells ∧ p.1 ≠ I) (hk : ∀ p ∈ G.kept,p ∈ l) : Fy G { c with cells:=l } W σ h':=by
  have zI:=Y.N (I,o) (mem3.mpr (.inl hI))
  have old : ∀ p ∈ c.all W,p.1 ≠ I → h'.get? p.1 = some p.2 ∧ p.1 ≠ c.L ∧ c.h₀.get? p.1 = none:=fun p hp ne=>⟨hs p.1 p.2 ne (Y.N p hp).1,(Y.N p hp).2⟩
  refine ⟨Y.Z.cellsTo hk,⟨Y.F.ns.extBut hs (Ne.symm zI.2.1),fun b ob e=>hs b ob (fun q=>by rw [q,zI.2.2] at e; exact nS e) (Y.F.keep b ob e),Y.F.above⟩,fun p hp=>?_,Y.lo,fun p hp q hq=>Y.AC p (hl p hp).1 q hq,Y.S⟩
  rcases mem3.mp hp with hp | hp | hp
  · exact old p (mem3.mpr (.inl (hl p hp).1)) (hl p hp).2
  · exact old p (mem3.mpr (.inr (.inl hp))) fun e=>Y.AC (I,o) hI p hp e.symm
  · exact old p (mem3.mpr (.inr (.inr hp))) (Y.tupNe zI.1 hn p hp)
theorem Fs.letGoE (X : Fs G c env sc m cm cs ((I,o) :: rest) W ρ σ h) (hr : ∀ p ∈ rest,p.1 ≠ I) (hn : NoCT o) (hs : Heap.ExtBut I h h') (hk : ∀ p ∈ G.kept,p ∈ rest) : Fs G c env sc m cm cs rest W ρ σ h' :=
  X.other (X.Y.extTo (c:=c.set m (cs ++ (I,o) :: rest)) (mem_mid.mpr (.inl rfl)) hn hs (fun p hp=>⟨mem_mid.mpr (.inr hp),(List.mem_append.mp hp).elim (fun hp=>X.off p hp (I,o) (.head _)) (hr p)⟩) fun p hp=>List.mem_append_right _ (hk p hp)) (fun p hp q hq=>X.off p hp q (.tail _ hq)) hk
theorem Fs.held (X : Fs G c env sc m cm cs rest W ρ σ h) (X' : Fx G ((c.set m (cs ++ rest)).cell (I,ob)) env sc cm W' ρ σ' h') (hI : ∀ p ∈ cs ++ rest,p.1 ≠ I) : Fs G c env sc m cm cs ((I,ob) :: rest) W' ρ σ' h' :=
  ⟨⟨X'.Y.cellsTo (c:=(c.set m (cs ++ rest)).cell (I,ob)) (l:=cs ++ (I,ob) :: rest) (fun p hp=>(mem_mid.mp hp).elim (fun e=>e ▸ .head _) (.tail _)) fun p hp=>List.mem_append_right _ (.tail _ (X.keptR p hp)),X.L,X.E,⟨cs,X.own,fun p hp=>List.mem_append_left _ hp⟩,X'.V⟩,X.own,X.ndn,X.ndc,
    fun p hp q hq=>(List.mem_cons.mp hq).elim (fun e=>e ▸ hI p (List.mem_append_left _ hp)) (X.off p hp q),fun p hp=>.tail _ (X.keptR p hp),X.has⟩
inductive LoopI (G : Cx) (n : Nat) (c : Ct) (env : Env) (sc : Scope) (x : Str) (body : List Stmt) (S : It) (stay : Sto → Prop) (items : List SV) (I : Addr) (rest : Led) (W : Wd) (out : Out) (ρ' : Rho) (σ' : Sto) (s : Shared) : Nat → Shared → Prop
  | mk {h tk m cm cs W' kk r o ρk σk} (hr : r = items.drop kk) (X : Fs G c env sc m cm cs ((I,o) :: rest) W' ρk σk h) (hI : S.it kk o) (ha : S.on σk W'.kn.ad) (tu : Turns G n sc x body stay r ρk σk out ρ' σ') (mo : More W W') : LoopI G n c env sc x body S stay items I rest W out ρ' σ' s r.length { s with heap:=h,toks:=tk }
theorem drop_i {α : Type} {v : α} {r items : List α} {k : Nat} (e : v :: r = items.drop k) : items[k]? = some v ∧ r = items.drop (k + 1):=by
  have h1 : k < items.length:=Nat.lt_of_not_le fun q=>nomatch e.trans (List.drop_eq_nil_of_le q)
  rw [List.drop_eq_getElem_cons h1] at e
  exact ⟨by rw [List.getElem?_eq_getElem h1,(List.cons.inj e).1],(List.cons.inj e).2⟩
theorem for_step (hA : Room n c.A) {S : It} {stay : Sto → Prop} {items r : List SV} {x : Str} {px : Pos} {body : List Stmt} {out : Out} {R : Result → Shared → Prop} {J : Nat → Shared → Prop} {E' : Value → Shared → Prop} {kk : Nat} (hx : isVar sc x = true) (hS : S.Ok G items) (hs : ∀ σ,stay σ → S.stay σ)
    (hr : ∀ p ∈ rest,p.1 ≠ I) (hk : ∀ p ∈ G.kept,p ∈ rest) (hr' : r = items.drop kk) (X : Fs G c env sc m cm cs ((I,o) :: rest) W ρ σ s.heap) (hI : S.it kk o) (ha : S.on σ W.kn.ad) (tu : Turns G n sc x body stay r ρ σ out ρ' σ') (k : StPost G c env sc rest W out ρ' σ' (fun f s'=>R (.ok f) s') s)
    (hJ : ∀ ⦃h tk m cm cs W' r' o ρk σk⦄,r' = items.drop (kk + 1) → r'.length < r.length → Fs G c env sc m cm cs ((I,o) :: rest) W' ρk σk h → S.it (kk + 1) o → S.on σk W'.kn.ad → Turns G n sc x body stay r' ρk σk out ρ' σ' → More W W' → J r'.length { s with heap:=h,toks:=tk }) :
    wpAny G.M c.A (pyNext (.ref I)) (fun q s₁=>match q with
      | none=>wpAny G.M c.A (execs [] env) (fun f s₃=>R (.ok f) s₃) E' s₁
      | some v=>wpAny G.M c.A (letOwnedTupleGo (.Name x px) (.ref I) v) (fun _ s₁' =>
          wpAny G.M c.A (assign (.Name x px) env v) (fun _ s₂=>wpAny G.M c.A (execs body env) (fun f s₃=>match f with
            | .next | .cont=>∃ m,m < r.length ∧ J m s₃
            | .brk=>R (.ok .next) s₃
            | .ret v=>R (.ok (.ret v)) s₃) E' s₂) E' s₁') E' s₁) E' s :=
  have hIo : s.heap.get? I = some o:=(X.Y.N (I,o) (mem3.mpr (.inl (mem_mid.mpr (.inl rfl))))).1
  tu.el (fun e h=>hS.fin (c:=c.set m (cs ++ (I,o) :: rest)) hA.1 ha hIo hI X.Y (List.drop_eq_nil_iff.mp (hr'.symm.trans e)) fun h' he=>wpAny_pure (k (tk:=s.toks) (h.2.1 ▸ h.2.2 ▸ X.letGoE hr (hS.noCT hI) he hk) (Kn.Le.refl _) (h.1 ▸ rfl)))
    fun v r' oo ρ₁ σ₁ e ex af=>hS.item (c:=c.set m (cs ++ (I,o) :: rest)) ha hIo hI X.Y (drop_i (e.symm.trans hr')).1 fun h' o' w tk' hI' ho' hsb rw'=>wpAny_of_eq (rfl : letOwnedTupleGo (.Name x px) (.ref I) w = pure ())
      (PySem.wpAny_assign_Name (storeName_s (s:={ s with heap:=h',toks:=tk' }) (X.turn hr (hS.noCT hI) hsb ho' hk) hx rw' fun m₂ cm₂ cs₂ h₂ tk₂ X₂=>ex hA (s:={ s with heap:=h₂,toks:=tk₂ }) X₂ fun m₃ cm₃ cs₃ h₃ tk₃ W₃ fl X₃ m₃' hf=>after_go hf af (fun st tu=>⟨r'.length,e ▸ Nat.lt_succ_self _,hJ (drop_i (e.symm.trans hr')).2 (e ▸ Nat.lt_succ_self _) X₃ hI' (hS.keep ha (hs _ st) m₃'.ad) tu m₃'⟩)
      fun e1 e2 fl' hf'=>k (e1 ▸ e2 ▸ X₃.letGo hr (hS.noCT hI') (Heap.SameBut.refl _ _) hk) m₃' hf'))
theorem for_core (hA : Room n c.A) {S : It} {stay : Sto → Prop} {items : List SV} {x : Str} {px : Pos} {body : List Stmt} {out : Out} {R : Result → Shared → Prop} (hx : isVar sc x = true) (hS : S.Ok G items) (hs : ∀ σ,stay σ → S.stay σ) (ha : S.on σ W.kn.ad) (hI : S.it 0 ob)
    (tu : Turns G n sc x body stay items ρ σ out ρ' σ') (hr : ∀ p ∈ rest,p.1 ≠ I) (hk : ∀ p ∈ G.kept,p ∈ rest) (X : Fs G c env sc m cm cs ((I,ob) :: rest) W ρ σ s.heap) (k : StPost G c env sc rest W out ρ' σ' (fun f s'=>R (.ok f) s') s) :
    codeAny G.M c.A (.forLoop (.Name x px) (.ref I) body [] env) R s:=by
  refine codeAny_forLoop_any (LoopI G n c env sc x body S stay items I rest W out ρ' σ' s) (fun j s' h=>?_) items.length (.mk (tk:=s.toks) (kk:=0) (List.drop_zero).symm X hI ha tu (Kn.Le.refl _))
  induction h with
  | @mk h tk _ _ _ _ _ _ _ _ _ hr' X hI ha tu mo=>exact for_step hA (s:={ s with heap:=h,toks:=tk }) hx hS hs hr hk hr' X hI ha tu (k.tr mo) fun _ _ _ _ _ _ _ _ _ _ e1 _ X hI ha tu m=>.mk e1 X hI ha tu (mo.trans m)
theorem StT.for {it : Expr} {x : Str} {px pos : Pos} {body : List Stmt} {M : Prop} {stay : Sto → Prop} {items : List SV} {out : Out} (hk : known it = true) (hx : isVar sc x = true) (go : GoT G n sc it ρ σ M stay items σ₁) (tu : M → Turns G n sc x body stay items ρ σ₁ out ρ' σ') : StT G n sc (.For (.Name x px) it body [] pos) ρ σ out ρ' σ':=fun c env m cm cs rest W E Q s hA X k =>
  wpAny_For (go (c:=c.set m (cs ++ rest)) hA X.toFx fun S I ob h tk W' hM hS hs ha hI hr X' m'=>for_core hA (s:={ s with heap:=h,toks:=tk }) hx hS hs ha hI (tu hM) (fun p hp=>hr p (List.mem_append_right _ hp)) X.keptR (X.held X' hr) (k.tr m')) ((exprS it).fold hk env)
inductive WhileI (G : Cx) (c : Ct) (env : Env) (sc : Scope) (R : Rec) (t : Expr) (body : List Stmt) (rest : Led) (W : Wd) (out : Out) (ρ' : Rho) (σ' : Sto) (s : Shared) : Nat → Shared → Prop
  | mk {j h tk m cm cs W' ρk σk} (X : Fs G c env sc m cm cs rest W' ρk σk h) (e : whileE R sc t body j ρk σk = some (out,ρ',σ')) (mo : More W W') : WhileI G c env sc R t body rest W out ρ' σ' s j { s with heap:=h,toks:=tk }
theorem whileE_el {R : Rec} (tok : TstOk G n R.tst) (xk : ExOk G n R.ex) {t : Expr} {body : List Stmt} {j : Nat} {out : Out} {P : Prop} (e : whileE R sc t body j ρ σ = some (out,ρ',σ'))
    (h1 : ∀ σ₁,TstT G n sc t ρ σ false σ₁ → out = .next ∧ ρ' = ρ ∧ σ' = σ₁ → P) (h2 : ∀ i σ₁ o ρ₁ σ₂,i < j → TstT G n sc t ρ σ true σ₁ → ExT G n sc body ρ σ₁ o ρ₁ σ₂ → AfterT True (whileE R sc t body i ρ₁ σ₂ = some (out,ρ',σ')) o ρ₁ σ₂ out ρ' σ' → P) : P:=by
  induction j with
  | zero=>exact nS e
  | succ j _ =>
    refine Sat.bS (f:=fun b σ=>bI b (o3 (R.ex sc body ρ σ) fun o ρ σ=>turnO o (whileE R sc t body j ρ σ) ρ σ) (some (.next,ρ,σ))) (P:=fun r=>r = (out,ρ',σ') → P) (tok sc t ρ σ) (fun b σ₁ ht=>?_) e rfl
    induction b with
    | false=>exact .yes fun e=>h1 σ₁ ht ⟨(pe e).1.symm,(pe (pe e).2).1.symm,(pe (pe e).2).2.symm⟩
    | true =>
      refine Sat.o3 (P:=fun r=>r = (out,ρ',σ') → P) (f:=fun o ρ σ=>turnO o (whileE R sc t body j ρ σ) ρ σ) (xk sc body ρ σ₁) fun o ρ₁ σ₂ h=>(turnO_s (st:=True) (P:=fun o ρ σ=>whileE R sc t body j ρ₁ σ₂ = some (o,ρ,σ)) fun r e=>⟨trivial,e⟩).mono fun q a e=>?_
      subst e
      exact h2 j σ₁ o ρ₁ σ₂ (Nat.lt_succ_self j) ht h a
theorem while_step {R : Rec} (tok : TstOk G n R.tst) (xk : ExOk G n R.ex) (hA : Room n c.A) {t : Expr} {body : List Stmt} {j : Nat} {out : Out} {P : Result → Shared → Prop} {J : Nat → Shared → Prop} {E' : Value → Shared → Prop} (e : whileE R sc t body j ρ σ = some (out,ρ',σ')) (X : Fs G c env sc m cm cs rest W ρ σ s.heap) (k : StPost G c env sc rest W out ρ' σ' (fun f s'=>P (.ok f) s') s)
    (hJ : ∀ ⦃i h tk m cm cs W' ρk σk⦄,Fs G c env sc m cm cs rest W' ρk σk h → whileE R sc t body i ρk σk = some (out,ρ',σ') → More W W' → J i { s with heap:=h,toks:=tk }) :
    wpAny G.M c.A (PySem.isTrue t env (eval t env)) (fun b s₂ =>
        if b then wpAny G.M c.A (execs body env) (fun f s₃=>match f with
            | .next | .cont=>∃ m,m < j ∧ J m s₃
            | .brk=>P (.ok .next) s₃
            | .ret v=>P (.ok (.ret v)) s₃) E' s₂
        else wpAny G.M c.A (execs [] env) (fun f s₃=>P (.ok f) s₃) E' s₂) E' s :=
  whileE_el tok xk e (fun σ₁ ht h=>ht.st hA X fun h₁ tk₁ W₁ X₁ m₁=>wpAny_pure (k (h.2.1 ▸ h.2.2 ▸ X₁) m₁ (h.1 ▸ rfl))) fun i σ₁ o ρ₁ σ₂ lt ht ex af=>ht.st hA X fun h₁ tk₁ W₁ X₁ m₁=>ex hA (s:={ s with heap:=h₁,toks:=tk₁ }) X₁ fun m₃ cm₃ cs₃ h₃ tk₃ W₃ fl X₃ m₃' hf=>after_go hf af (fun _ e=>⟨i,lt,hJ X₃ e (m₁.trans m₃')⟩) fun e1 e2 fl' hf'=>k (e1 ▸ e2 ▸ X₃) (m₁.trans m₃') hf'
theorem while_core {R : Rec} (tok : TstOk G n R.tst) (xk : ExOk G n R.ex) (hA : Room n c.A) {t : Expr} {body : List Stmt} {kf : Nat} {out : Out} {P : Result → Shared → Prop} (e : whileE R sc t body kf ρ σ = some (out,ρ',σ')) (X : Fs G c env sc m cm cs rest W ρ σ s.heap) (k : StPost G c env sc rest W out ρ' σ' (fun f s'=>P (.ok f) s') s) :
    codeAny G.M c.A (.whileLoop t body [] env) P s:=by
  refine codeAny_whileLoop (WhileI G c env sc R t body rest W out ρ' σ' s) (fun j s' h=>?_) kf (.mk (tk:=s.toks) X e (Kn.Le.refl _))
  induction h with
  | @mk h tk _ _ _ _ _ _ X e mo=>exact while_step tok xk hA (s:={ s with heap:=h,toks:=tk }) e X (k.tr mo) fun _ _ _ _ _ _ _ _ _ X e m=>.mk X e (mo.trans m)
end
section
variable {G : Cx} {n : Nat} {T : Tab} {R : Rec} {c : Ct} {env : Env} {sc : Scope} {m cm : Str → Option Value} {cs rest : Led} {W : Wd} {ρ ρ' : Rho} {σ σ₁ σ₂ σ' : Sto} {E : Value → Shared → Prop} {s : Shared} {sv v : SV} {e t : Expr} {pos : Pos} {out : Out}
theorem exec_assign_plain {A : Around} {Q : Flow → Shared → Prop} (hk : TgtK t) (hs : swapsWith e (some t) pos.line env = pure false) (h : wpAny G.M A (eval e env) (fun v s₁=>wpAny G.M A (assign t env v) (fun _=>Q .next) E s₁) E s) : wpAny G.M A (exec (.Assign [t] e pos) env) Q E s:=by
  have he : assignEach [t] env = [(false,assign t env)] ∧ swappedStores [t] e env = pure none:=by
    have q:=(exprS e).one env
    induction hk with
    | name x p=>exact ⟨rfl,q.1 x p⟩
    | attr o x p=>exact ⟨rfl,q.2.1 o x p⟩
    | sub o i p=>exact ⟨rfl,q.2.2 o i p⟩
  rw [arm_exec_Assign,show swapsWithSole [t] e pos.line env = pure false from hs,he.1,he.2]
  exact wpAny_bind (wpAny_standAt (wpAny_bind (wpAny_pure (wpAny_bind (wpAny_mono h (fun v s₁ h₁=>wpAny_bind (wpAny_pure (wpAny_bind (wpAny_mono h₁ (fun _ _ x=>wpAny_pure x) fun _ _ x=>x)))) fun _ _ x=>x)))))
theorem StT.assign1 (h : EvT G n sc e ρ σ v σ₁) (st : StoreT G n sc t v ρ σ₁ ρ' σ') (hs : ∀ env : Env,swapsWith e (some t) pos.line env = pure false) : StT G n sc (.Assign [t] e pos) ρ σ .next ρ' σ':=fun c env m cm cs rest W E Q s hA X k =>
  exec_assign_plain st.tgt (hs env) (h.st hA X fun va h₁ tk₁ W₁ X₁ r₁ m₁=>st.run hA (s:={ s with heap:=h₁,toks:=tk₁ }) X₁ r₁ fun m' cm' cs' h' tk' W' X' m'=>k X' (m₁.trans m') rfl)
theorem StT.assignC {elt : Expr} {gens : List Comprehension} {scope : Scope} {vp p : Pos} {x : Str} (h : EvT G n sc (.ListComp elt gens scope vp) ρ σ v σ₁) (cm : CmT G n sc elt gens scope vp ρ σ v σ₁) (hv : isVar sc x = true) : StT G n sc (.Assign [.Name x p] (.ListComp elt gens scope vp) pos) ρ σ .next (put x v ρ) σ₁:=fun c env m cm' cs rest W E Q s hA X k=>by
  obtain ⟨b,hb⟩ : ∃ b,swapsWith (.ListComp elt gens scope vp) (some (.Name x p)) pos.line env = pure b:=⟨_,rfl⟩
  cases b with
  | false=>exact exec_assign_plain (.name x p) hb (h.st hA X fun va h₁ tk₁ W₁ X₁ r₁ m₁=>(StoreT.name (G:=G) (n:=n) hv).run hA (s:={ s with heap:=h₁,toks:=tk₁ }) X₁ r₁ fun m' cm' cs' h' tk' W' X' m'=>k X' (m₁.trans m') rfl)
  | true =>
    rw [exec_Assign_Name_used _ _ _ _ hb]
    refine wpAny_bind (wpAny_standAt (wpAny_bind ?_))
    show wpAny _ c.A (do let _ ← comprehension (.ListComp elt gens scope vp) scope env (firstIterPos gens vp) (newList []) (firstAsync gens) (firstIter gens env) (some (assign (.Name x p) env))) _ _ s
    refine wpAny_bind (cm hA (Q:=fun _ s'=>wpAny G.M c.A (pure ()) (fun _ s''=>wpAny G.M c.A (pure Flow.next) Q E s'') E s') X fun C oC mC w h' tk' W' hr hnC X' hC r' m'=>?_)
    refine PySem.wpAny_assign_Name (storeName_s (s:={ s with heap:=h',toks:=tk' }) X' hv r' fun m₂ cm₂ cs₂ h₂ tk₂ X₂=>?_)
    exact ⟨mC,hC _ (X₂.Y.N (C,oC) (mem3.mpr (.inl (mem_mid.mpr (.inl rfl))))).1,fun h₃ hs₃=>wpAny_pure (wpAny_pure (k (X₂.letGo hr hnC hs₃ X.keptR) m' rfl))⟩
theorem sAssign1_s (ok : AttrsOk G) (ev : EvOk G n R.ev) (cok : CmOk G n R.ev) : Sat (sAssign1 R sc t e ρ σ) (U3 (StT G n sc (.Assign [t] e pos) ρ σ)):=by
  refine .gd fun hk=>.ob fun v σ₁ h=>.ob fun ρ₂ σ₂ e2=>.yes ?_
  have h1 : EvT G n sc e ρ σ v σ₁:=ev sc e ρ σ h
  have st : StoreT G n sc t v ρ σ₁ ρ₂ σ₂:=storeT_s ok ev t e2
  cases q : isComp e with
  | false=>exact StT.assign1 h1 st fun env=>(exprS e).swap q _ _ env
  | true =>
    have tk:=st.tgt
    induction tk with
    | attr o x p=>exact StT.assign1 h1 st fun env=>(exprS e).attr o x p _ env
    | sub o i p=>exact StT.assign1 h1 st fun env=>(exprS e).sub o i p _ env
    | name x p =>
      obtain ⟨elt,gs,sc',vp,rfl⟩:=(exprS e).comp hk q
      obtain ⟨hv,e3⟩:=gd_i (show gd (isVar sc x) (some (put x v ρ,σ₁)) = some (ρ₂,σ₂) from e2)
      cases e3
      exact StT.assignC h1 (cok sc elt gs sc' vp ρ σ h) hv
theorem sAssignT_s (ev : EvOk G n R.ev) {ts : List Expr} {tk : Nat} {tp : Pos} : Sat (sAssignT R sc ts e ρ σ) (U3 (StT G n sc (.Assign [.Tuple ts tk tp] e pos) ρ σ)):=by
  refine .gd fun hk=>.bS (ev sc e ρ σ) fun v σ₁ h=>.oo fun vs hv=>.om fun ρ' hn c env m cm cs rest W E Q s hA X k=>?_
  have ns:=storeNs_s (G:=G) ts vs ρ hn
  refine Assign_Tuple (h.st hA X fun va h₁ tk₁ W₁ X₁ r₁ m₁=>?_) ((exprS e).sole _ _ _ _ env) ((exprS e).tup hk _ _ _ env)
  rw [assign_Tuple]
  refine wpAny_bind (wpAny_standAt ?_)
  unfold unpack
  rw [(ns.len env).2]
  exact wpAny_bind (wpAny_holding (itemsOf_s (c:=c.set m (cs ++ rest)) (s:={ s with heap:=h₁,toks:=tk₁ }) hA.1 X₁.Y r₁ hv (ns.len env).1 fun ws h' Y' rs=>ns.run (s:={ s with heap:=h',toks:=tk₁ }) (X₁.back Y' (Kn.Le.refl _)) rs fun m' cm' cs' h'' tk' X''=>k X'' m₁ rfl))
theorem sAssign_s (ok : AttrsOk G) (ev : EvOk G n R.ev) (cok : CmOk G n R.ev) (ts : List Expr) : Sat (sAssign R sc ts e ρ σ) (U3 (StT G n sc (.Assign ts e pos) ρ σ)) :=
  .l1 (P:=fun ts=>U3 (StT G n sc (.Assign ts e pos) ρ σ)) fun t=>.eTup (fun es c p h=>h ▸ sAssignT_s ev) (sAssign1_s ok ev cok)
theorem loadVar (X : Fx G c env sc cm W ρ σ s.heap) {x : Str} {sv : SV} {Q : Value → Shared → Prop} (hv : isVar sc x = true) (e : nameV sc x ρ = some sv) (k : ∀ v,RelV W.kn sv v → Q v s) : wpAny G.M c.A (loadName env x) Q E s:=by
  unfold isVar at hv
  unfold nameV at e
  cases hk : lk x sc.names with
  | none=>rw [hk] at hv; exact nT hv
  | some q =>
    rw [hk] at hv e
    induction q with
    | «local» =>
      obtain ⟨v,hv,r⟩:=(X.V x sv e).1 hk
      exact wpAny_loadName_local X.E.kind (X.E.names x _ hk) (X.L ▸ X.Y.F.ns) hv (k v r)
    | cell =>
      obtain ⟨v,hv,hc,r⟩:=(X.V x sv e).2 (.inl hk)
      obtain ⟨a,hc⟩:=Option.isSome_iff_exists.mp hc
      obtain ⟨cs,hC,hcs⟩:=X.C
      obtain ⟨o,hm,hd⟩:=cells_at hC hc
      exact wpAny_loadName_cell X.E.kind (X.E.names x _ hk) hc ⟨o,(X.Y.N _ (mem3.mpr (.inl (hcs _ hm)))).1,hv ▸ hd⟩ (k v r)
    | _=>exact nT hv
theorem augop_s {op : Operator} {a b : SV} {va vb : Value} {A : Around} {k : Kn} (ra : RelV k a va) (rb : RelV k b vb) : Sat (augop op a b) fun z=>∀ ⦃Q : Value → Shared → Prop⦄ ⦃s : Shared⦄,(∀ t tk,Q (.int z t) { s with toks:=tk }) → wpAny G.M A (inplaceOp op va vb) Q E s:=fun z e =>
  Sat.vInt (P:=fun a z=>RelV k a va → ∀ ⦃Q : Value → Shared → Prop⦄ ⦃s : Shared⦄,(∀ t tk,Q (.int z t) { s with toks:=tk }) → wpAny G.M A (inplaceOp op va vb) Q E s) (fun x z e ra=>Sat.vInt (P:=fun b z=>RelV k b vb → ∀ ⦃Q : Value → Shared → Prop⦄ ⦃s : Shared⦄,(∀ t tk,Q (.int z t) { s with toks:=tk }) → wpAny G.M A (inplaceOp op va vb) Q E s) (fun y=>by
    obtain ⟨t,rfl⟩:=ra
    induction op with
    | Add=>exact .yes fun rb Q s q=>rb.i (P:=fun vb=>wpAny G.M A (inplaceOp .Add _ vb) Q E s) fun u=>PySem.P.iadd_int (q _ _)
    | Sub=>exact .yes fun rb Q s q=>rb.i (P:=fun vb=>wpAny G.M A (inplaceOp .Sub _ vb) Q E s) fun u=>PySem.P.isub_int (q _ _)
    | _=>exact .no) e rb) e ra
theorem sAug_s (ev : EvOk G n R.ev) (op : Operator) : Sat (sAug R sc t op e ρ σ) (U3 (StT G n sc (.AugAssign t op e pos) ρ σ)):=by
  refine .eName fun x p ht=>.gd fun hv=>.oo fun a ea=>.bS (ev sc e ρ σ) fun b σ₁ h=>.om fun z hz=>?_
  subst ht
  exact fun c env m cm cs rest W E Q s hA X k=>wpAny_AugAssign_Name (loadVar X.toFx hv ea fun va ra=>h.st hA X fun vb h₁ tk₁ W₁ X₁ r₁ m₁=>augop_s (ra.mono m₁) r₁ hz fun t tk=>storeName_s (s:={ s with heap:=h₁,toks:=tk }) X₁ hv relV_int fun m' cm' cs' h' tk' X'=>k X' m₁ rfl)
theorem StT.ret (h : EvT G n sc e ρ σ v σ₁) : StT G n sc (.Return (some e) pos) ρ σ (.ret v) ρ σ₁:=fun c env m cm cs rest W E Q s hA X k=>wpAny_Return_some (h.st hA X fun va h₁ tk₁ W₁ X₁ r₁ m₁=>k X₁ m₁ ⟨va,rfl,r₁⟩)
theorem sRet_s (ev : EvOk G n R.ev) (o : Option Expr) : Sat (sRet R sc o ρ σ) (U3 (StT G n sc (.Return o pos) ρ σ)):=by
  induction o with
  | none=>exact .yes fun c env m cm cs rest W E Q s hA X k=>wpAny_Return_none (k (tk:=s.toks) X (Kn.Le.refl _) ⟨.none,rfl,relV_none⟩)
  | some e=>exact .bS (ev sc e ρ σ) fun v σ₁ h=>.yes (P:=U3 (StT G n sc (.Return (some e) pos) ρ σ)) (r:=(Out.ret v,ρ,σ₁)) (StT.ret h)
theorem StT.expr (hc : isComp e = false) (h : EvT G n sc e ρ σ v σ₁) : StT G n sc (.Expr e pos) ρ σ .next ρ σ₁:=fun c env m cm cs rest W E Q s hA X k=>wpAny_Expr_any (h.st hA X fun va h₁ tk₁ W₁ X₁ r₁ m₁=>k X₁ m₁ rfl) (by unfold interactive; rw [X.E.kind]; rfl) ((exprS e).swap hc _ _ env)
theorem sExpr_s (ev : EvOk G n R.ev) : Sat (sExpr R sc e ρ σ) (U3 (StT G n sc (.Expr e pos) ρ σ)):=.gd fun hc=>.bS (ev sc e ρ σ) fun v σ₁ h=>.yes (P:=U3 (StT G n sc (.Expr e pos) ρ σ)) (r:=(Out.next,ρ,σ₁)) (StT.expr (Bool.not_eq_true' _ ▸ hc) h)
theorem StT.ite {z : Bool} {a b : List Stmt} (ht : TstT G n sc t ρ σ z σ₁) (h : ExT G n sc (bI z a b) ρ σ₁ out ρ' σ') : StT G n sc (.If t a b pos) ρ σ out ρ' σ':=fun c env m cm cs rest W E Q s hA X k =>
  wpAny_If (ht.st hA X fun h₁ tk₁ W₁ X₁ m₁=>by induction z <;> exact h hA (s:={ s with heap:=h₁,toks:=tk₁ }) X₁ (k.tr m₁))
theorem sIf_s (tok : TstOk G n R.tst) (xk : ExOk G n R.ex) (a b : List Stmt) : Sat (sIf R sc t a b ρ σ) (U3 (StT G n sc (.If t a b pos) ρ σ)):=by
  refine .bS (tok sc t ρ σ) fun z σ₁ h=>?_
  induction z
  · exact (xk sc b ρ σ₁).mono fun r h2=>StT.ite (z:=false) h h2
  · exact (xk sc a ρ σ₁).mono fun r h2=>StT.ite (z:=true) h h2
end
theorem Sat.eFn {γ : Type} {e : Expr} {f : Str → List Expr → Option γ} {P : γ → Prop} (k : ∀ g gp args p,e = .Call (.Name g gp) args [] p → Sat (f g args) P) : Sat (eFn e f) P:=by
  unfold Mine.eFn eCall
  cases h : kCall (kindOf e) with
  | none=>exact .no
  | some q =>
    obtain ⟨g,args,kws,p⟩:=q
    have h:=(exprF e).call h
    exact fun r e'=>Sat.l0 (P:=fun kws r=>e = .Call g args kws p → P r) (.eName fun x gp hg r e' h=>k x gp args p (hg ▸ h) e') e' h
noncomputable def SyM (V : Vx) (n : Nat) (al : List D) (l : LX) : Prop:=(∀ x ∈ den V.val l,x ∈ al) ∧ (den V.val l).length ≤ n
noncomputable def Src.stay (r : Src) (σ : Sto) : Prop:=@Src.casesOn (fun _=>Prop) r (fun _ _=>True) (fun i o _=>σ[i]? = some o) fun i n al l=>σ[i]? = some (.sy n al l)
noncomputable def Src.known (V : Vx) (r : Src) : Prop:=@Src.casesOn (fun _=>Prop) r (fun _ _=>True) (fun _ _ _=>True) fun _ n al l=>SyM V n al l
noncomputable def Src.itemsD (V : Vx) (r : Src) : List SV:=@Src.casesOn (fun _=>List SV) r (fun lo n=>Mine.range lo (lo + n)) (fun _ _ xs=>xs) fun _ _ _ l=>(den V.val l).map .d
structure SrcT (G : Cx) (n : Nat) (sc : Scope) (ρ : Rho) (e : Expr) (σ : Sto) (r : Src) (σ' : Sto) : Prop where
  kn : Mine.known e = true
  go : GoT G n sc e ρ σ (r.known G.V) r.stay (r.itemsD G.V) σ'
  here : r.stay σ'
section
variable {G : Cx} {n : Nat} {T : Tab} {R : Rec} {sc : Scope} {ρ ρ' : Rho} {σ σ₁ σ' : Sto} {e t : Expr} {pos : Pos}
theorem rangeS_s (lo hi : Int) : Sat (rangeS lo hi) fun r=>r = .range lo (hi - lo).toNat ∧ -1000 ≤ lo ∧ lo ≤ 1000 ∧ -1000 ≤ hi ∧ hi ≤ 1000:=.ite fun h=>.yes ⟨rfl,h⟩
theorem iterR_s (ko : KOk G) (ok : EvOk G n R.ev) {f : Str} {fp cp : Pos} {args : List Expr} (hf : isRange sc f ρ = true) : Sat (iterR R sc ρ args σ) (U2 (SrcT G n sc ρ (.Call (.Name f fp) args [] cp) σ)):=by
  have fin : ∀ {vs : List SV} {lo hi : Int} {σ₁ : Sto},((vs = [.d (.int hi)] ∧ lo = 0) ∨ vs = [.d (.int lo),.d (.int hi)]) → EvsT G n sc ρ args σ vs σ₁ → Sat (om (rangeS lo hi) fun r=>(r,σ₁)) (U2 (SrcT G n sc ρ (.Call (.Name f fp) args [] cp) σ)):=fun {vs lo hi σ₁} hv t=>.om fun r hr=>by
    obtain ⟨rfl,hb⟩:=rangeS_s lo hi hr
    exact ⟨rfl,GoT.range ko hf t hv hb,trivial⟩
  refine .lc (P:=fun _=>U2 (SrcT G n sc ρ (.Call (.Name f fp) args [] cp) σ)) fun _ r=>.lr (P:=fun _=>U2 (SrcT G n sc ρ (.Call (.Name f fp) args [] cp) σ)) (.bS (evL_s ok args σ) fun vs σ₁ t r e=>?_) fun _ r=>.l0 (P:=fun _=>U2 (SrcT G n sc ρ (.Call (.Name f fp) args [] cp) σ)) (.bS (evL_s ok args σ) fun vs σ₁ t r e=>?_)
  · exact Sat.l1 (P:=fun vs r=>EvsT G n sc ρ args σ vs σ₁ → U2 (SrcT G n sc ρ (.Call (.Name f fp) args [] cp) σ) r) (fun a=>.vInt (P:=fun a r=>EvsT G n sc ρ args σ [a] σ₁ → U2 (SrcT G n sc ρ (.Call (.Name f fp) args [] cp) σ) r) fun hi r e t=>fin (.inl ⟨rfl,rfl⟩) t e) e t
  · exact Sat.l2 (P:=fun vs r=>EvsT G n sc ρ args σ vs σ₁ → U2 (SrcT G n sc ρ (.Call (.Name f fp) args [] cp) σ) r) (fun a b=>.vInt (P:=fun a r=>EvsT G n sc ρ args σ [a,b] σ₁ → U2 (SrcT G n sc ρ (.Call (.Name f fp) args [] cp) σ) r) fun lo=>.vInt (P:=fun b r=>EvsT G n sc ρ args σ [_,b] σ₁ → U2 (SrcT G n sc ρ (.Call (.Name f fp) args [] cp) σ) r) fun hi r e t=>fin (.inr rfl) t e) e t
theorem iterP_s (ok : EvOk G n R.ev) (e : Expr) : Sat (iterP R sc ρ e σ) (U2 (SrcT G n sc ρ e σ)):=by
  refine .gd fun hk=>.bS (ok sc e ρ σ) fun v σ₁ h r e'=>Sat.vRef (P:=fun v r=>EvT G n sc e ρ σ v σ₁ → U2 (SrcT G n sc ρ e σ) r) (fun i=>.aL (fun xs h1=>.glen fun hz=>.yes (r:=(Src.list i (.dl xs) (K.lmap .d xs),σ₁)) fun h=>⟨hk,GoT.list h h1 (fun _ _ _=>trivial) (fun k ob r=>LsR.mono r fun ws r=>relVs_ofD r) (fun _=>by show (K.lmap SV.d xs).length ≤ 1000; rw [K.lmap_eq,List.length_map]; exact hz),h1⟩)
    (fun xs h1=>.glen fun hz=>.yes (r:=(Src.list i (.ls xs) xs,σ₁)) fun h=>⟨hk,GoT.list h h1 (fun _ _ _=>trivial) (fun k ob r=>r) (fun _=>hz),h1⟩)
    fun m al l h1=>.gle fun hz=>.yes (r:=(Src.sy i m al l,σ₁)) fun h=>⟨hk,GoT.list h h1 (fun k ob r=>let ⟨_,_,_,r⟩:=r; ⟨r.1,r.2.1⟩) (fun k ob r=>LsR.mono r fun ws r=>show RelVs k ((den G.V.val l).map SV.d) ws from K.lmap_eq SV.d (den G.V.val l) ▸ relVs_ofD r.2.2) (fun q=>by show ((den G.V.val l).map SV.d).length ≤ 1000; rw [List.length_map]; exact Nat.le_trans q.2 hz),h1⟩) e' h
theorem iterOf_s (ko : KOk G) (ok : EvOk G n R.ev) (e : Expr) : Sat (iterOf R sc ρ e σ) (U2 (SrcT G n sc ρ e σ)):=.oe (.eFn fun g gp args p he=>.gd fun hf=>he ▸ iterR_s ko ok hf) (iterP_s ok e)
theorem stays_i {i : Nat} {o : SO} (h : stays (some (i,o)) σ = true) : σ[i]? = some o:=by
  unfold stays at h
  dsimp only at h
  rw [nth_eq] at h
  cases e : σ[i]? with
  | none=>rw [e] at h; exact nT h
  | some o'=>rw [e] at h; exact congrArg some (sameO_eq o o' h).symm
theorem sFor_s (ko : KOk G) (ok : EvOk G n R.ev) (xk : ExOk G n R.ex) (t it : Expr) (body els : List Stmt) : Sat (sFor R sc t it body els ρ σ) (U3 (StT G n sc (.For t it body els pos) ρ σ)):=by
  refine .l0 (P:=fun els=>U3 (StT G n sc (.For t it body els pos) ρ σ)) (.eName fun x px ht=>.gd fun hv=>.bS (iterOf_s ko ok it) fun r σ₁ h=>.gd fun hs=>?_)
  subst ht
  cases r with
  | range lo k=>exact (forE_s (S:=(Src.range lo k).stay) xk (fun _ _=>trivial) _ ρ σ₁).mono fun q tu=>StT.for h.kn hv h.go fun _=>tu
  | list i o xs=>exact (forE_s (S:=(Src.list i o xs).stay) xk (fun σ h=>stays_i h) _ ρ σ₁).mono fun q tu=>StT.for h.kn hv h.go fun _=>tu
  | sy i m al l=>exact nT hs
theorem exS_s (ko : KOk G) (ok : EvOk G n R.ev) (cok : CmOk G n R.ev) (tok : TstOk G n R.tst) (xk : ExOk G n R.ex) (st : Stmt) : Sat (exS R sc st ρ σ) (U3 (StT G n sc st ρ σ)):=by
  refine @Stmt.casesOn (fun st=>Sat (exS R sc st ρ σ) (U3 (StT G n sc st ρ σ))) st ?_ ?_ ?_ (fun e p=>sRet_s ok e) ?_ (fun ts e p=>sAssign_s ko.attr ok cok ts) ?_ (fun t op e p=>sAug_s ok op) ?_ (fun t it body els p=>sFor_s ko ok xk t it body els) ?_
    (fun t body els p=>?_) (fun t a b p=>sIf_s tok xk a b) ?_ ?_ ?_ ?_ ?_ ?_ ?_ ?_ ?_ ?_ ?_ (fun e p=>sExpr_s ok) (fun p=>?_) (fun p=>?_) (fun p=>?_) <;> intros
  all_goals first | exact .no | skip
  · exact .l0 (P:=fun els=>U3 (StT G n sc (.While t body els p) ρ σ)) fun r e c env m cm cs rest W E Q s hA X k=>wpAny_While (while_core tok xk hA e X k)
  · exact .yes fun c env m cm cs rest W E Q s hA X k=>by rw [arm_exec_Pass]; exact wpAny_bind (wpAny_standAt (wpAny_pure (k (tk:=s.toks) X (Kn.Le.refl _) rfl)))
  · exact .yes fun c env m cm cs rest W E Q s hA X k=>by rw [arm_exec_Break]; exact wpAny_bind (wpAny_standAt (wpAny_pure (k (tk:=s.toks) X (Kn.Le.refl _) rfl)))
end
noncomputable def clRec (cl : List (Str × Addr)) : List (Str × NameKind) → List (Str × Addr) → List (Str × Addr):=@List.rec (Str × NameKind) (fun _=>List (Str × Addr) → List (Str × Addr)) (fun acc=>acc) fun p _ ih acc=>bI (p.2 == .free) (ih ((p.1,(cl.lookup p.1).getD 0) :: acc)) (ih acc)
theorem closure_is {scope : Scope} {env : Env} (h : ∀ p ∈ scope.names,p.2 = .free → (env.cells.lookup p.1).isSome = true) : closureFor scope env = pure (clRec env.cells scope.names []):=by
  unfold closureFor
  have key : ∀ (names : List (Str × NameKind)) (acc : List (Str × Addr)),(∀ p ∈ names,p.2 = .free → (env.cells.lookup p.1).isSome = true) →
      (forIn names acc fun x r=>(match x with
        | (name,kind)=>(do
          if (kind == NameKind.free) = true then do
            let y ← cellOf env name
            pure (ForInStep.yield ((name,y) :: r))
          else pure (ForInStep.yield r)) : Sem (ForInStep (List (Str × Addr))))) = pure (clRec env.cells names acc):=by
    intro names
    induction names with
    | nil=>exact fun acc _=>rfl
    | cons p r ih =>
      intro acc hp
      have hr:=fun acc=>ih acc fun q hq=>hp q (.tail _ hq)
      rw [List.forIn_cons]
      show _ = pure (bI (p.2 == .free) _ _)
      dsimp only
      cases hk : (p.2 == NameKind.free) with
      | true =>
        obtain ⟨c,hc⟩:=Option.isSome_iff_exists.mp (hp p (.head _) (beq_iff_eq.mp hk))
        have e1 : cellOf env p.1 = pure c:=by unfold cellOf; rw [hc]
        rw [if_pos rfl,e1,hc]
        exact hr _
      | false =>
        rw [if_neg Bool.false_ne_true]
        exact hr _
  have:=key scope.names [] h
  simp only [bind_pure] at this ⊢
  exact this
theorem clRec_has {cl : List (Str × Addr)} {y : Str} {names : List (Str × NameKind)} : ∀ {acc : List (Str × Addr)},((y,NameKind.free) ∈ names ∨ (acc.lookup y).isSome = true) → ((clRec cl names acc).lookup y).isSome = true:=by
  induction names with
  | nil=>exact fun h=>h.elim (fun h=>absurd h List.not_mem_nil) id
  | cons p r ih =>
    intro acc h
    show ((bI (p.2 == .free) (clRec cl r ((p.1,(cl.lookup p.1).getD 0) :: acc)) (clRec cl r acc)).lookup y).isSome = true
    cases hk : (p.2 == NameKind.free) with
    | true =>
      refine ih ?_
      rw [List.lookup_cons]
      cases q : y == p.1 with
      | true=>exact .inr rfl
      | false=>exact h.imp (fun h=>(List.mem_cons.mp h).resolve_left fun e=>nT (q.symm.trans (beq_iff_eq.mpr (congrArg Prod.fst e)))) id
    | false=>exact ih (h.imp (fun h=>(List.mem_cons.mp h).resolve_left fun e=>nT (hk.symm.trans (beq_iff_eq.mpr (congrArg Prod.snd e).symm))) id)
theorem clRec_cells {cm : Str → Option Value} {cl : List (Str × Addr)} {cs : Led} (hC : CellsAre cm cl cs) {names : List (Str × NameKind)} : ∀ {acc : List (Str × Addr)} {ca : Led},(∀ p ∈ names,p.2 = .free → (cl.lookup p.1).isSome = true) → CellsAre cm acc ca → (∀ p ∈ ca,p ∈ cs) → ∃ cs',CellsAre cm (clRec cl names acc) cs' ∧ ∀ p ∈ cs',p ∈ cs:=by
  induction names with
  | nil=>exact fun {acc ca} _ h hs=>⟨ca,h,hs⟩
  | cons p r ih =>
    intro acc ca hp h hs
    show ∃ cs',CellsAre cm (bI (p.2 == .free) (clRec cl r ((p.1,(cl.lookup p.1).getD 0) :: acc)) (clRec cl r acc)) cs' ∧ _
    cases hk : (p.2 == NameKind.free) with
    | true =>
      obtain ⟨c,hc⟩:=Option.isSome_iff_exists.mp (hp p (.head _) (beq_iff_eq.mp hk))
      obtain ⟨o,hm,hd⟩:=cells_at hC hc
      rw [hc]
      exact ih (ca:=(c,o) :: ca) (fun q hq=>hp q (.tail _ hq)) (.cons hd h) (two hm hs)
    | false=>exact ih (fun q hq=>hp q (.tail _ hq)) h hs
noncomputable def NsOk (out : List (Str × NameKind)) (x : Str) (ρ : Rho) (y : Str) (k : NameKind) : Prop:=nkK k (y = x ∨ lk y ρ = none) False (lk y out = some .cell ∨ lk y out = some .free) True False
theorem compNs_i {out : List (Str × NameKind)} {x : Str} {ρ : Rho} {p : Str × NameKind} {r : List (Str × NameKind)} (h : compNs out x ρ (p :: r) = true) : lk p.1 r = none ∧ NsOk out x ρ p.1 p.2 ∧ compNs out x ρ r = true:=by
  obtain ⟨y,k⟩:=p
  refine ⟨Option.isNone_iff_eq_none.mp (bA_i h).1,?_⟩
  have h:=(bA_i h).2
  induction k with
  | «local» =>
    refine ⟨?_,(bA_i h).2⟩
    have h:=(bA_i h).1
    cases q : seq y x with
    | true=>exact .inl (seq_eq q)
    | false=>exact .inr (Option.isNone_iff_eq_none.mp (by dsimp only at h; rw [q] at h; exact h))
  | cell=>exact nT h
  | free =>
    refine ⟨?_,(bA_i h).2⟩
    have h:=(bA_i h).1
    show lk y out = _ ∨ lk y out = _
    dsimp only at h
    cases q : lk y out with
    | none=>rw [q] at h; exact nT h
    | some z=>rw [q] at h; induction z <;> first | exact nT h | exact .inl rfl | exact .inr rfl
  | globalImplicit=>exact ⟨(show True from True.intro : NsOk out x ρ y .globalImplicit),h⟩
  | globalExplicit=>exact nT h
theorem compNs_s {out : List (Str × NameKind)} {x : Str} {ρ : Rho} {l : List (Str × NameKind)} (h : compNs out x ρ l = true) : ∀ p ∈ l,lk p.1 l = some p.2 ∧ NsOk out x ρ p.1 p.2:=by
  induction l with
  | nil=>exact zero
  | cons p r ih =>
    obtain ⟨hn,ok,h⟩:=compNs_i h
    refine two ⟨(lk_cons ..).trans (if_pos rfl),ok⟩ fun q hq=>⟨?_,(ih h q hq).2⟩
    rw [lk_cons,if_neg fun e=>?_]
    · exact (ih h q hq).1
    · rw [e,(ih h q hq).1] at hn
      exact nS hn.symm
theorem lk_mem {α : Type} {x : Str} {v : α} {l : List (Str × α)} (h : lk x l = some v) : (x,v) ∈ l:=by
  induction l with
  | nil=>exact nS h
  | cons p r ih =>
    rw [lk_cons] at h
    by_cases q : p.1 = x
    · rw [if_pos q] at h; rw [← q,← Option.some.inj h]; exact .head _
    · rw [if_neg q] at h; exact .tail _ (ih h)
structure CompSc (sc sc' : Scope) (x : Str) (ρ : Rho) : Prop where
  kind : sc'.kind = .function
  loc : lk x sc'.names = some .local
  ns : ∀ p ∈ sc'.names,lk p.1 sc'.names = some p.2 ∧ NsOk sc.names x ρ p.1 p.2
theorem compSc_i {sc sc' : Scope} {x : Str} {ρ : Rho} (h : compSc sc sc' x ρ = true) : CompSc sc sc' x ρ:=by
  have h:=bA_i h
  have h2:=bA_i h.2
  refine ⟨of_decide_eq_true h.1,?_,compNs_s h2.2⟩
  have h:=h2.1
  cases q : lk x sc'.names with
  | none=>rw [q] at h; exact nT h
  | some z=>rw [q] at h; induction z <;> first | exact nT h | rfl
theorem lookup_map_kind {f : Str → NameKind → NameKind} {y : Str} (l : List (Str × NameKind)) : (l.map fun p=>(p.1,f p.1 p.2)).lookup y = (lk y l).map (f y):=by
  induction l with
  | nil=>rfl
  | cons p r ih =>
    rw [lk_cons,List.map_cons,List.lookup_cons,ih]
    by_cases h : p.1 = y
    · rw [if_pos h,h,beq_self_eq_true]; rfl
    · rw [if_neg h,show (y == p.1) = false from beq_eq_false_iff_ne.mpr (Ne.symm h)]
section
variable {G : Cx} {c c' : Ct} {env : Env} {sc sc' : Scope} {cm : Str → Option Value} {W W' : Wd} {ρ : Rho} {σ σ' : Sto} {h h' : Heap} {C : Addr} {x : Str}
theorem relabel_kind (X : EnvOk env sc) (hs : CompSc sc sc' x ρ) {y : Str} {k : NameKind} (hy : lk y sc'.names = some k) : (relabel sc' env).names.lookup y = some (kindX k):=by
  have e : (relabel sc' env).names = sc'.names.map fun p=>(p.1,if (p.2 == .free && env.scope.kind == .function && env.kindOf p.1 == some .cell) = true then NameKind.cell else p.2):=by
    unfold relabel
    dsimp only
    refine List.map_congr_left fun p _=>?_
    split <;> rfl
  rw [e,lookup_map_kind (f:=fun n k=>if (k == .free && env.scope.kind == .function && env.kindOf n == some .cell) = true then NameKind.cell else k),hy]
  have hm:=(hs.ns _ (lk_mem hy)).2
  refine congrArg some ?_
  induction k with
  | free =>
    have : env.kindOf y = some .cell:=(show lk y sc.names = some .cell ∨ lk y sc.names = some .free from hm).elim (X.names y _) (X.names y _)
    rw [this,X.kind]
    rfl
  | _=>rfl
theorem free_has (X : EnvOk env sc) (hs : CompSc sc sc' x ρ) : ∀ p ∈ sc'.names,p.2 = .free → (env.cells.lookup p.1).isSome = true:=fun p hp e=>X.has p.1 (show NsOk sc.names x ρ p.1 .free from e ▸ (hs.ns p hp).2)
theorem Fx.inner (X : Fx G c env sc cm W ρ σ h) (hs : CompSc sc sc' x ρ) {v : SV} {w : Value} {mC : Str → Option Value} (Y : Fy G (c'.on c'.h₀ C (setM mC x w)) W' σ' h') (r : RelV W'.kn v w) (mo : More W W') (hsub : ∀ p ∈ c.cells,p ∈ c'.cells) :
    Fx G (c'.on c'.h₀ C (setM mC x w)) (compEnvC sc' (clRec env.cells sc'.names []) C env) sc' cm W' ((x,v) :: ρ) σ' h':=by
  obtain ⟨cs,hC,hcs⟩:=X.C
  obtain ⟨cs',hC',hcs'⟩:=clRec_cells hC (free_has X.E hs) .nil (fun p hp=>absurd hp List.not_mem_nil)
  have noCell : ∀ y,lk y sc'.names ≠ some .cell:=fun y e=>(hs.ns _ (lk_mem e)).2
  refine ⟨Y,rfl,⟨hs.kind,X.E.globals,X.E.builtins,fun y k hy=>relabel_kind X.E hs hy,fun y hy=>clRec_has (.inl (lk_mem (hy.resolve_left (noCell y))))⟩,⟨cs',hC',fun p hp=>hsub p (hcs p (hcs' p hp))⟩,fun y sv e=>?_⟩
  rw [lk_cons] at e
  by_cases hxy : x = y
  · rw [if_pos hxy] at e
    cases e
    subst hxy
    exact ⟨fun _=>⟨w,if_pos rfl,r⟩,fun hy=>nomatch hs.loc.symm.trans (hy.resolve_left (noCell x))⟩
  · rw [if_neg hxy] at e
    refine ⟨fun hy=>?_,fun hy=>?_⟩
    · exact nS (((show y = x ∨ lk y ρ = none from (hs.ns _ (lk_mem hy)).2).resolve_left (Ne.symm hxy)).symm.trans e)
    · have hfree:=hy.resolve_left (noCell y)
      obtain ⟨u,hu,_,ru⟩:=(X.V y sv e).2 (hs.ns _ (lk_mem hfree)).2
      exact ⟨u,hu,clRec_has (.inl (lk_mem hfree)),ru.mono mo⟩
end
noncomputable abbrev testsOf (ifs : List Expr) (env : Env) : Sem Bool:=forIn ifs true fun c r=>if r = true then do let ok ← PySem.isTrue c env (eval c env); pure (ForInStep.yield ok) else pure (ForInStep.yield r)
noncomputable def IfT (G : Cx) (n : Nat) (sc : Scope) (ifs : List Expr) (ρ : Rho) (σ : Sto) (b : Bool) (σ' : Sto) : Prop :=
  ∀ ⦃c : Ct⦄ ⦃env : Env⦄ ⦃cm : Str → Option Value⦄ ⦃W : Wd⦄ ⦃E : Value → Shared → Prop⦄ ⦃Q : Bool → Shared → Prop⦄ ⦃s : Shared⦄,Room n c.A → Fx G c env sc cm W ρ σ s.heap → (∀ ⦃h tk W'⦄,Fx G c env sc cm W' ρ σ' h → More W W' → Q b { s with heap:=h,toks:=tk }) → wpAny G.M c.A (testsOf ifs env) Q E s
theorem tests_false {M : Model} {A : Around} {env : Env} {E : Value → Shared → Prop} {s : Shared} {Q : Bool → Shared → Prop} (h : Q false s) (ifs : List Expr) :
    wpAny M A (forIn ifs false fun c r=>if r = true then do let ok ← PySem.isTrue c env (eval c env); pure (ForInStep.yield ok) else pure (ForInStep.yield r)) Q E s:=by
  induction ifs with
  | nil=>exact wpAny_pure h
  | cons c r ih =>
    rw [List.forIn_cons]
    refine wpAny_bind ?_
    rw [if_neg Bool.false_ne_true]
    exact wpAny_pure ih
theorem TstT.at {G : Cx} {n : Nat} {sc : Scope} {e : Expr} {ρ : Rho} {σ σ₁ : Sto} {b : Bool} (h : TstT G n sc e ρ σ b σ₁) {c : Ct} {env : Env} {cm : Str → Option Value} {W : Wd} {E : Value → Shared → Prop} {s : Shared} (hA : Room n c.A) (X : Fx G c env sc cm W ρ σ s.heap) {Q : Bool → Shared → Prop} (k : ∀ ⦃h tk W'⦄,Fx G c env sc cm W' ρ σ₁ h → More W W' → Q b { s with heap:=h,toks:=tk }) : wpAny G.M c.A (PySem.isTrue e env (eval e env)) Q E s:=h hA X fun _ _ _ Y m=>k (X.back Y m) m
theorem evIfs_s {G : Cx} {n : Nat} {R : Rec} {sc : Scope} {ρ : Rho} (tok : TstOk G n R.tst) (ifs : List Expr) : ∀ σ,Sat (evIfs R sc ρ ifs σ) (U2 (IfT G n sc ifs ρ σ)):=by
  induction ifs with
  | nil=>exact fun σ=>.yes fun c env cm W E Q s hA X k=>wpAny_pure (k (tk:=s.toks) X (Kn.Le.refl _))
  | cons e r ih =>
    intro σ
    show Sat (ob (R.tst sc e ρ σ) fun b σ=>bI b (evIfs R sc ρ r σ) (some (false,σ))) _
    refine .bS (tok sc e ρ σ) fun b σ₁ h=>?_
    have go : ∀ {b' : Bool} {σ' : Sto},(∀ ⦃c : Ct⦄ ⦃env : Env⦄ ⦃cm : Str → Option Value⦄ ⦃W : Wd⦄ ⦃E : Value → Shared → Prop⦄ ⦃Q : Bool → Shared → Prop⦄ ⦃s : Shared⦄,Room n c.A → Fx G c env sc cm W ρ σ₁ s.heap → (∀ ⦃h tk W'⦄,Fx G c env sc cm W' ρ σ' h → More W W' → Q b' { s with heap:=h,toks:=tk }) → wpAny G.M c.A (forIn r b fun c r=>if r = true then do let ok ← PySem.isTrue c env (eval c env); pure (ForInStep.yield ok) else pure (ForInStep.yield r)) Q E s) → IfT G n sc (e :: r) ρ σ b' σ':=fun {b' σ'} t c env cm W E Q s hA X k=>by
      show wpAny _ _ (forIn (e :: r) true _) _ _ _
      rw [List.forIn_cons]
      refine wpAny_bind ?_
      rw [if_pos rfl]
      exact wpAny_bind (h.at hA X fun h₁ tk₁ W₁ X₁ m₁=>wpAny_pure (t hA (s:={ s with heap:=h₁,toks:=tk₁ }) X₁ fun h₂ tk₂ W₂ X₂ m₂=>k X₂ (m₁.trans m₂)))
    induction b with
    | false=>exact .yes (go fun c env cm W E Q s hA X k=>tests_false (k (tk:=s.toks) X (Kn.Le.refl _)) r)
    | true=>exact (ih σ₁).mono fun q t=>go t
noncomputable def StepT (G : Cx) (n : Nat) (sc : Scope) (ifs : List Expr) (elt : Expr) (ρ : Rho) (σ : Sto) (r : Option SV) (σ' : Sto) : Prop :=
  ∀ ⦃c : Ct⦄ ⦃env : Env⦄ ⦃cm : Str → Option Value⦄ ⦃W : Wd⦄ ⦃E QT : Value → Shared → Prop⦄ ⦃QN : Shared → Prop⦄ ⦃s : Shared⦄,Room n c.A → Fx G c env sc cm W ρ σ s.heap → (∀ ⦃h tk W'⦄,r = none → Fx G c env sc cm W' ρ σ' h → More W W' → QN { s with heap:=h,toks:=tk }) →
    (∀ ⦃y v h tk W'⦄,r = some y → Fx G c env sc cm W' ρ σ' h → RelV W'.kn y v → More W W' → QT v { s with heap:=h,toks:=tk }) → wpAny G.M c.A (testsOf ifs env) (fun ok s₃=>if ok = true then wpAny G.M c.A (eval elt env) QT E s₃ else QN s₃) E s
section
variable {G : Cx} {n : Nat} {sc : Scope} {ifs : List Expr} {elt : Expr} {ρ : Rho} {σ σ₁ σ' : Sto} {y : SV}
theorem StepT.skip (h : IfT G n sc ifs ρ σ false σ') : StepT G n sc ifs elt ρ σ none σ':=fun c env cm W E QT QN s hA X kn kt=>h hA X fun h' tk W' X' m=>by
  rw [if_neg Bool.false_ne_true]
  exact kn rfl X' m
theorem StepT.take (h : IfT G n sc ifs ρ σ true σ₁) (h2 : EvT G n sc elt ρ σ₁ y σ') : StepT G n sc ifs elt ρ σ (some y) σ':=fun c env cm W E QT QN s hA X kn kt=>h hA X fun h' tk W' X' m=>by
  rw [if_pos rfl]
  exact h2.at hA (s:={ s with heap:=h',toks:=tk }) X' fun v h'' tk' W'' X'' r m'=>kt rfl X'' r (m.trans m')
end
noncomputable def optC {α : Type} (r : Option α) (ys : List α) : List α:=@Option.rec α (fun _=>List α) ys (fun y=>y :: ys) r
noncomputable def Elems (G : Cx) (n : Nat) (sc : Scope) (x : Str) (ifs : List Expr) (elt : Expr) (ρ : Rho) (S : Sto → Prop) : List SV → Sto → List SV → Sto → Prop:=@List.rec SV (fun _=>Sto → List SV → Sto → Prop) (fun σ ys σ'=>ys = [] ∧ σ' = σ)
  fun v _ ih σ ys σ'=>∃ r σ₁ ys',StepT G n sc ifs elt ((x,v) :: ρ) σ r σ₁ ∧ S σ₁ ∧ ih σ₁ ys' σ' ∧ ys = optC r ys'
theorem Elems.el {G : Cx} {n : Nat} {sc : Scope} {x : Str} {ifs : List Expr} {elt : Expr} {ρ : Rho} {S : Sto → Prop} {r : List SV} {σ σ' : Sto} {ys : List SV} {P : Prop} (t : Elems G n sc x ifs elt ρ S r σ ys σ') (h : r = [] → ys = [] ∧ σ' = σ → P)
    (k : ∀ v r' o σ₁ ys',r = v :: r' → StepT G n sc ifs elt ((x,v) :: ρ) σ o σ₁ → S σ₁ → Elems G n sc x ifs elt ρ S r' σ₁ ys' σ' → ys = optC o ys' → P) : P:=by
  cases r with
  | nil=>exact h rfl t
  | cons v r =>
    obtain ⟨o,σ₁,ys',h1,h2,h3,h4⟩:=t
    exact k v r o σ₁ ys' rfl h1 h2 h3 h4
section
variable {G : Cx} {n : Nat} {c : Ct} {env : Env} {sc sc' : Scope} {cm : Str → Option Value} {W W₁ : Wd} {ρ : Rho} {σ σ₁ σ' : Sto} {E : Value → Shared → Prop} {s : Shared} {h h₀ : Heap} {x : Str} {ifs : List Expr} {elt : Expr} {ys items : List SV}
noncomputable abbrev Ct.cp (c : Ct) (g : Heap) (C : Addr) (mC : Str → Option Value) (I : Addr) (o : Obj) (D : Addr) (ws : List Value) (nD : Nat) : Ct:=((c.cell (I,o)).cell (D,listOf ws.toArray nD)).on g C mC
structure CompF (G : Cx) (n : Nat) (sc' : Scope) (x : Str) (ifs : List Expr) (elt : Expr) (ρ : Rho) (S : It) (stay : Sto → Prop) (items : List SV) (I D : Addr) (c : Ct) (g : Heap) (C : Addr) (W : Wd) (σ' : Sto) (ys : List SV) (h : Heap) (mC : Str → Option Value) (W' : Wd) (kk : Nat) (r yd yr : List SV) (o : Obj) (ws : List Value) (nD : Nat) (σk : Sto) : Prop where
  hr : r = items.drop kk
  Y : Fy G (c.cp g C mC I o D ws nD) W' σk h
  hI : S.it kk o
  ha : S.on σk W'.kn.ad
  el : Elems G n sc' x ifs elt ρ stay r σk yr σ'
  hys : ys = yd ++ yr
  rs : RelVs W'.kn yd ws
  hlen : ws.length ≤ kk
  mo : More W W'
inductive CompI (G : Cx) (n : Nat) (sc' : Scope) (x : Str) (ifs : List Expr) (elt : Expr) (ρ : Rho) (S : It) (stay : Sto → Prop) (items : List SV) (I D : Addr) (c : Ct) (g : Heap) (C : Addr) (W : Wd) (σ' : Sto) (ys : List SV) (s : Shared) : Nat → Shared → Prop
  | mk {h tk mC W' kk r yd yr o ws nD σk} (f : CompF G n sc' x ifs elt ρ S stay items I D c g C W σ' ys h mC W' kk r yd yr o ws nD σk) : CompI G n sc' x ifs elt ρ S stay items I D c g C W σ' ys s r.length { s with heap:=h,toks:=tk }
noncomputable abbrev cpEnv (sc' : Scope) (C : Addr) (env : Env) : Env:=compEnvC sc' (clRec env.cells sc'.names []) C env
theorem comp_turn (hA : Room n c.A) {S : It} {stay : Sto → Prop} {I D C : Addr} {g : Heap} {mC : Str → Option Value} {W' : Wd} {kk : Nat} {r yd yr : List SV} {o : Obj} {ws : List Value} {nD : Nat} {σk : Sto} {px : Pos} {R : Result → Shared → Prop} {J : Nat → Shared → Prop} {E' : Value → Shared → Prop}
    (hcs : CompSc sc sc' x ρ) (hS : S.Ok G items) (hs : ∀ σ,stay σ → S.stay σ) (hr : ∀ p ∈ c.cells,p.1 ≠ I) (hD : ∀ p ∈ c.cells,p.1 ≠ D) (hID : I ≠ D) (hk : ∀ p ∈ G.kept,p ∈ c.cells) (X : Fx G c env sc cm W ρ σ h₀) (f : CompF G n sc' x ifs elt ρ S stay items I D c g C W σ' ys s.heap mC W' kk r yd yr o ws nD σk)
    (fin : ∀ ⦃mC h W' ws nD⦄,Fy G ((c.cell (D,listOf ws.toArray nD)).on g C mC) W' σ' h → RelVs W'.kn ys ws → More W W' → R (.ok .next) { s with heap:=h })
    (hJ : ∀ ⦃h tk mC W' r' yd yr o ws nD σk⦄,r'.length < r.length → CompF G n sc' x ifs elt ρ S stay items I D c g C W σ' ys h mC W' (kk + 1) r' yd yr o ws nD σk → J r'.length { s with heap:=h,toks:=tk }) :
    wpAny G.M c.A (pyNext (.ref I)) (fun q s₁=>match q with
      | none=>R (.ok .next) s₁
      | some v=>wpAny G.M c.A (assign (.Name x px) (cpEnv sc' C env) v) (fun _ s₂ =>
          wpAny G.M c.A (forIn ifs true fun c r=>if r = true then do let ok ← PySem.isTrue c (cpEnv sc' C env) (eval c (cpEnv sc' C env)); pure (ForInStep.yield ok) else pure (ForInStep.yield r)) (fun ok s₃ =>
            if ok = true then wpAny G.M c.A (eval elt (cpEnv sc' C env)) (fun x s₄ =>
              wpAny G.M c.A (call (.builtin "list.append") [.ref D,x]) (fun _ s₅=>∃ m,m < r.length ∧ J m s₅) E' s₄) E' s₃
            else ∃ m,m < r.length ∧ J m s₃) E' s₂) E' s₁) E' s:=by
  have Y:=f.Y
  have inI : (I,o) ∈ (c.cp g C mC I o D ws nD).cells:=.tail _ (.head _)
  have hIo : s.heap.get? I = some o:=(Y.N (I,o) (mem3.mpr (.inl inI))).1
  have nI:=hS.noCT f.hI
  refine f.el.el (fun e h=>hS.fin (c:=c.cp g C mC I o D ws nD) hA.1 f.ha hIo f.hI Y (List.drop_eq_nil_iff.mp (f.hr.symm.trans e)) fun h' he=>?_) fun v r' oy σ₁ ys' e st hst el hy=>?_
  · have Y':=Y.extTo (l:=(D,listOf ws.toArray nD) :: c.cells) inI nI he (two ⟨.head _,Ne.symm hID⟩ fun p hp=>⟨.tail _ (.tail _ hp),hr p hp⟩) fun p hp=>.tail _ (hk p hp)
    exact fin (h.2 ▸ Y') (by rw [f.hys,h.1,List.append_nil]; exact f.rs) f.mo
  · have dr:=drop_i (e.symm.trans f.hr)
    refine hS.item (c:=c.cp g C mC I o D ws nD) f.ha hIo f.hI Y dr.1 fun h' o' w tk' hI' ho' hsb rw'=>?_
    have Y₄ : Fy G (c.cp g C mC I o' D ws nD) W' σk h':=Y.cellTo (o':=o') inI nI hsb (two (.inr ⟨.head _,Ne.symm hID⟩) (two (.inl ⟨rfl,ho'⟩) fun p hp=>.inr ⟨.tail _ (.tail _ hp),hr p hp⟩)) fun p hp=>.tail _ (.tail _ (hk p hp))
    have hx : (cpEnv sc' C env).kindOf x = some .local:=relabel_kind X.E hcs hcs.loc
    have hcl : ((cpEnv sc' C env).scope.kind == .class || ((cpEnv sc' C env).scope.kind == .module && (cpEnv sc' C env).locals != (cpEnv sc' C env).globals)) = false:=by
      rw [show (cpEnv sc' C env).scope.kind = .function from hcs.kind]; rfl
    refine PySem.wpAny_assign_Name (wpAny_storeName_local (m:=mC) hx Y₄.F.ns (fun h₅ hn₅ hs₅=>?_) hcl)
    have Y₅ : Fy G (c.cp g C (setM mC x w) I o' D ws nD) W' σk h₅:=⟨⟨Y₄.Z.B,Y₄.Z.fro,Y₄.Z.X,Y₄.Z.T,Y₄.Z.kept⟩,Y₄.F.set hn₅ hs₅,Y₄.N.set hs₅,Y₄.lo,Y₄.AC,Y₄.S⟩
    have X₅:=X.inner (c':=c.cp g C mC I o' D ws nD) hcs (v:=v) (w:=w) (mC:=mC) Y₅ rw' f.mo (fun p hp=>.tail _ (.tail _ hp))
    have lt : r'.length < r.length:=e ▸ Nat.lt_succ_self _
    refine st (c:=c.cp g C (setM mC x w) I o' D ws nD) hA (s:={ s with heap:=h₅,toks:=_ }) X₅ (fun h₆ tk₆ W₆ eo X₆ m₆=>⟨r'.length,lt,hJ lt ⟨dr.2,X₆.Y,hI',hS.keep f.ha (hs _ hst) m₆.ad,el,by rw [f.hys,hy,eo]; rfl,f.rs.mono m₆,Nat.le_succ_of_le f.hlen,f.mo.trans m₆⟩⟩) fun y yv h₇ tk₇ W₇ eo X₇ r₇ m₇=>?_
    have hle : ws.length ≤ 2000:=Nat.le_trans f.hlen (Nat.le_trans (Nat.le_of_lt (List.getElem?_eq_some_iff.mp dr.1).1) hS.len)
    have inD : (D,listOf ws.toArray nD) ∈ (c.cp g C (setM mC x w) I o' D ws nD).cells:=.head _
    refine append_at (s:={ s with heap:=h₇,toks:=tk₇ }) (X₇.Y.N _ (mem3.mpr (.inl inD))).1 (fun h₈ hs₈ ho₈=>?_) (by rw [List.size_toArray]; exact Nat.le_trans hle (by decide))
    rw [List.push_toArray] at ho₈
    have Y₈ : Fy G (c.cp g C (setM mC x w) I o' D (ws ++ [yv]) (nD + 1)) W₇ σ₁ h₈:=X₇.Y.cellTo (o':=listOf (ws ++ [yv]).toArray (nD + 1)) inD (noCT_list _ _) hs₈ (two (.inl ⟨rfl,ho₈⟩) (two (.inr ⟨.tail _ (.head _),hID⟩) fun p hp=>.inr ⟨.tail _ (.tail _ hp),hD p hp⟩)) fun p hp=>.tail _ (.tail _ (hk p hp))
    exact ⟨r'.length,lt,hJ lt ⟨dr.2,Y₈,hI',hS.keep f.ha (hs _ hst) m₇.ad,el,by rw [f.hys,hy,eo,List.append_assoc]; rfl,All2.app (.one r₇) (f.rs.mono m₇),by rw [List.length_append]; exact Nat.succ_le_succ f.hlen,f.mo.trans m₇⟩⟩
end
section
variable {G : Cx} {n : Nat} {c : Ct} {env : Env} {sc sc' : Scope} {cm : Str → Option Value} {W W₁ : Wd} {ρ : Rho} {σ σ₁ σ' : Sto} {E : Value → Shared → Prop} {s : Shared} {h h₀ : Heap} {x : Str} {ifs : List Expr} {elt it : Expr} {ys items : List SV} {px pp pos : Pos} {M : Prop} {stay : Sto → Prop}
noncomputable def CompK (G : Cx) (c : Ct) (W : Wd) (ys : List SV) (σ' : Sto) (P : Addr → Addr → Shared → Prop) (s : Shared) : Prop:=∀ ⦃C D g mC h tk W' ws nD⦄,(∀ p ∈ c.cells,p.1 ≠ D) → Fr c.h₀ c.L g c.m → Fy G ((c.cell (D,listOf (List.toArray ws) nD)).on g C mC) W' σ' h → RelVs W'.kn ys ws → More W W' → P C D { s with heap:=h,toks:=tk }
theorem comp_core (hA : Room n c.A) {use : Option (Value → Sem Unit)} {Q : Value → Shared → Prop} (hcs : CompSc sc sc' x ρ) (hf : known it = true) (go : GoT G n sc it ρ σ M stay items σ₁) (el : M → Elems G n sc' x ifs elt ρ stay items σ₁ ys σ') (X : Fx G c env sc cm W ρ σ s.heap)
    (k : M → CompK G c W ys σ' (fun C D s'=>compPost G.M c.A E use Q (.ref D) C (.ok .next) s') s) :
    wpAny G.M c.A (comprehension (.ListComp elt [⟨.Name x px,it,ifs,0⟩] sc' pos) sc' env pp (newList []) false (eval it env) use) Q E s:=by
  have hlk : ∀ y ∈ sc'.names,y.2 = .local → sc'.names.lookup y.1 = some .local:=fun p hm e=>by rw [← lk_eq,(hcs.ns p hm).1,e]
  refine wpAny_comprehension_free (cl:=clRec env.cells sc'.names []) rfl ((exprS it).fold hf env) (closure_is (free_has X.E hcs)) hcs.kind hlk ?_
  refine go hA X fun S I ob h₁ tk₁ W₁ hM hS hs ha hI hr X₁ m₁=>wpAny_newList ?_ (by decide)
  have Y₂:=X₁.Y.keepC (listOf ([] : List Value).toArray 0) rfl
  have hDr : ∀ p ∈ (I,ob) :: c.cells,p.1 ≠ h₁.objs.size:=X₁.newC
  refine wpAny_newFunctionEnv (fun p hp e=>?_) zero (fun h₂ hns hsb=>?_) hcs.kind
  · have:=(hcs.ns p hp).2
    rw [e] at this
    exact this
  have hk₂ : ∀ b o,(h₁.push (listOf ([] : List Value).toArray 0)).get? b = some o → h₂.get? b = some o:=fun b o e=>hsb.extBut b o (Nat.ne_of_lt (Heap.lt_size e)) (Heap.get?_push_of_some _ e)
  have FG:=Y₂.ground
  have Y₃:=Y₂.enter hns hk₂ (Nat.le_refl _)
  generalize groundOf (h₁.push (listOf ([] : List Value).toArray 0)) (Ct.all ((c.cell (I,ob)).cell (h₁.objs.size,listOf ([] : List Value).toArray 0)) W₁) = g at FG Y₃
  generalize (h₁.push (listOf ([] : List Value).toArray 0)).objs.size = C at hns hsb Y₃ ⊢
  generalize h₁.objs.size = D at hDr Y₃ ⊢
  have hD : ∀ p ∈ c.cells,p.1 ≠ D:=fun p hp=>hDr p (.tail _ hp)
  have loop : ∀ tk,codeAny G.M c.A (.compLoop (.ListComp elt [⟨.Name x px,it,ifs,0⟩] sc' pos) 0 (.ref I) (.ref D) (cpEnv sc' C env)) (compPost G.M c.A E use Q (.ref D) C) { s with heap:=h₂,toks:=tk }:=fun tk=>by
    refine codeAny_compLoop_tests (CompI G n sc' x ifs elt ρ S stay items I D c g C W σ' ys s) (fun j s' i=>?_) items.length (.mk (yd:=[]) ⟨List.drop_zero.symm,Y₃,hI,ha,el hM,rfl,rfl,Nat.zero_le _,m₁⟩) (fun v=>rfl)
    induction i with
    | @mk h tk _ _ _ _ _ _ _ _ _ _ f=>exact comp_turn hA (s:={ s with heap:=h,toks:=tk }) hcs hS hs hr hD (hDr (I,ob) (.head _)) X.Y.Z.kept X f (fun mC h' W' ws nD Y r m=>k hM (tk:=tk) hD FG Y r m) fun h' tk' _ _ _ _ _ _ _ _ _ _ f=>.mk f
  exact codeAny_compStart_list (loop _) (hS.self (k:=0) (Y₃.N (I,ob) (mem3.mpr (.inl (.tail _ (.head _))))).1 hI (loop _))
theorem Fy.leaveC {c' : Ct} {W' : Wd} {σ' : Sto} {h' h'' : Heap} (Z : Fz G c) (FG : Fr c.h₀ c.L c'.h₀ c.m) (Y' : Fy G c' W' σ' h') (hs : Heap.SameBut c'.L h' h'') : Fy G { c with cells:=c'.cells } W' σ' h'':=by
  obtain ⟨oL,es,ep,hL,r⟩:=FG.ns
  have keep : ∀ b o,c'.h₀.get? b = some o → h''.get? b = some o:=fun b o e=>(hs.2 b (Nat.ne_of_lt (Nat.lt_of_lt_of_le (Heap.lt_size e) Y'.F.above))).trans (Y'.F.keep b o e)
  refine ⟨Z.cellsTo Y'.Z.kept,⟨⟨oL,es,ep,keep _ _ hL,r⟩,fun b o e=>keep b o (FG.keep b o e),FG.above⟩,fun p hp=>?_,Y'.lo,Y'.AC,Y'.S⟩
  have z:=Y'.N p hp
  exact ⟨(hs.2 p.1 z.2.1).trans z.1,(News.back FG Y'.N p hp).2⟩
theorem Fy.keepNs {c' : Ct} {W' : Wd} {σ' : Sto} {h' : Heap} (Z : Fz G c) (FG : Fr c.h₀ c.L c'.h₀ c.m) (Y' : Fy G c' W' σ' h') :
    ∃ oC,NoCT oC ∧ (∀ h'' : Heap,h''.get? c'.L = some oC → h''.Ns c'.L c'.m) ∧ (∀ p ∈ c'.cells,p.1 ≠ c'.L) ∧ Fy G { c with cells:=(c'.L,oC) :: c'.cells } W' σ' h':=by
  obtain ⟨oC,es,ep,hC,hd,hkk,hf⟩:=Y'.F.ns
  have Y2:=Y'.leaveC Z FG (Heap.SameBut.refl _ _)
  have gC : c'.h₀.get? c'.L = none:=by
    cases q : c'.h₀.get? c'.L with
    | none=>rfl
    | some o=>exact absurd (Nat.lt_of_lt_of_le (Heap.lt_size q) Y'.F.above) (Nat.lt_irrefl _)
  refine ⟨oC,fun vs e=>(by rw [e] at hd; exact nomatch hd),fun h'' q=>⟨oC,es,ep,q,hd,hkk,hf⟩,fun p hp=>(Y'.N p (mem3.mpr (.inl hp))).2.1,⟨Z.cellsTo fun p hp=>.tail _ (Y'.Z.kept p hp),Y2.F,fun p hp=>?_,Y2.lo,fun p hp q hq=>?_,Y2.S⟩⟩
  · rcases List.mem_cons.mp hp with rfl | hp
    · obtain ⟨oL,_,_,hL,_⟩:=FG.ns
      refine ⟨hC,fun q=>nS (gC.symm.trans ((show c'.L = c.L from q) ▸ hL)),?_⟩
      cases q : c.h₀.get? c'.L with
      | none=>rfl
      | some o=>exact nS (gC.symm.trans (FG.keep _ _ q))
    · exact Y2.N p hp
  · rcases List.mem_cons.mp hp with rfl | hp
    · exact Ne.symm (Y'.N q (mem3.mpr (.inr (.inl hq)))).2.1
    · exact Y2.AC p hp q hq
noncomputable def ListIs (G : Cx) (ys : List SV) (o : SO) : Prop:=∀ ⦃k : Kn⦄ ⦃ws : List Value⦄ ⦃m : Nat⦄,RelVs k ys ws → RelO G.V k o (listOf ws.toArray m)
theorem comp_ev {o : SO} (co : ClsOk G.K) (hcs : CompSc sc sc' x ρ) (hf : known it = true) (go : GoT G n sc it ρ σ M stay items σ₁) (el : M → Elems G n sc' x ifs elt ρ stay items σ₁ ys σ') (ho : M → ListIs G ys o) : EvT G n sc (.ListComp elt [⟨.Name x px,it,ifs,0⟩] sc' pos) ρ σ (.ref σ'.length) (σ' ++ [o]):=fun c env cm W E Q s hA X k=>by
  rw [eval_ListComp]
  refine comp_core (use:=none) hA hcs hf go el X fun hM C D g mC h tk W' ws nD hD FG Y rs mo=>⟨mC,Y.F.ns,fun h' hs'=>?_⟩
  have Y':=Y.leaveC X.Y.Z FG hs'
  exact k (Y'.uncell (c:=c) co X.Y.Z hD (noCT_list _ _) (o:=o) (Heap.SameBut.refl _ _) (Y'.N (D,_) (.head _)).1 (ho hM rs)) (relV_new Y'.S) (mo.trans (More.app _ _))
theorem comp_cm {o : SO} (co : ClsOk G.K) (hcs : CompSc sc sc' x ρ) (hf : known it = true) (go : GoT G n sc it ρ σ M stay items σ₁) (el : M → Elems G n sc' x ifs elt ρ stay items σ₁ ys σ') (ho : M → ListIs G ys o) : CmT G n sc elt [⟨.Name x px,it,ifs,0⟩] sc' pos ρ σ (.ref σ'.length) (σ' ++ [o]):=fun c env m cm cs rest W E Q u s hA X k=>by
  show wpAny G.M c.A (comprehension (.ListComp elt [⟨.Name x px,it,ifs,0⟩] sc' pos) sc' env it.pos (newList []) false (eval it env) (some u)) Q E s
  refine comp_core (c:=c.set m (cs ++ rest)) (use:=some u) hA hcs hf go el X.toFx fun hM C D g mC h tk W' ws nD hD FG Y rs mo=>?_
  show wpAny G.M c.A (u (.ref D)) _ E _
  obtain ⟨oC,hn,hns,hne,Y2⟩:=Y.keepNs X.Y.Z FG
  have hne' : ∀ p ∈ cs ++ rest,p.1 ≠ C:=fun p hp=>hne p (.tail _ hp)
  have Y3 : Fy G (((c.set m (cs ++ rest)).cell (C,oC)).cell (D,listOf ws.toArray nD)) W' σ' h:=Y2.cellsTo (l:=(D,listOf ws.toArray nD) :: (C,oC) :: (cs ++ rest)) (two (.tail _ (.head _)) (two (.head _) fun p hp=>.tail _ (.tail _ hp))) fun p hp=>.tail _ (.tail _ (X.Y.Z.kept p hp))
  have Z4 : Fz G ((c.set m (cs ++ rest)).cell (C,oC)):=X.Y.Z.cellsTo fun p hp=>.tail _ (X.Y.Z.kept p hp)
  have Y4:=Y3.uncell (c:=(c.set m (cs ++ rest)).cell (C,oC)) co Z4 (two (Ne.symm (hne (D,_) (.head _))) hD) (noCT_list _ _) (o:=o) (Heap.SameBut.refl _ _) (Y3.N (D,_) (.head _)).1 (ho hM rs)
  have mo':=mo.trans (More.app W' (D,listOf ws.toArray nD))
  exact k (fun p hp=>hne' p (List.mem_append_right _ hp)) hn (X.held ⟨Y4,X.L,X.E,⟨cs,X.own,fun p hp=>.tail _ (List.mem_append_left _ hp)⟩,X.V.more mo'⟩ hne') hns (relV_new Y3.S) mo'
end
theorem All2.comb {α β γ : Type} {R : α → β → Prop} {S T : α → γ → Prop} (f : ∀ a b c,R a b → S a c → T a c) {x : List α} : ∀ {y : List β} {z : List γ},All2 R x y → All2 S x z → All2 T x z:=by
  induction x with
  | nil=>exact fun h k=>k
  | cons a x ih=>exact fun {y z} h k=>h.el (P:=fun _=>All2 T (a :: x) z) fun b y h1 h2=>k.el (P:=fun z=>All2 T (a :: x) z) fun c z k1 k2=>.cons (f _ _ _ h1 k1) (ih h2 k2)
theorem All2.conv {α β γ : Type} {R : α → β → Prop} {S : α → γ → Prop} {T : β → γ → Prop} (f : ∀ a b c,R a b → S a c → T b c) {x : List α} : ∀ {y : List β} {z : List γ},All2 R x y → All2 S x z → All2 T y z:=by
  induction x with
  | nil=>exact fun h k=>by cases (show _ = [] from h); exact k
  | cons a x ih=>exact fun ⟨b,r,e,h,k⟩ ⟨b',r',e',h',k'⟩=>by cases e; cases e'; exact ⟨_,_,rfl,f _ _ _ h h',ih k k'⟩
noncomputable def leafO (o : SO) : Bool:=@SO.casesOn (fun _=>Bool) o (fun _=>false) (fun _ _ _=>true) (fun _=>false) (fun _=>false) (fun _ _=>false) (fun _=>false) (fun _=>true) (fun _=>false) fun _ _=>false
noncomputable abbrev Tu : Sto → Sto → Prop:=All2 fun o o'=>o' = o ∨ leafO o' = true
theorem Tu.refl {σ : Sto} : Tu σ σ:=by
  induction σ with
  | nil=>exact .nil
  | cons o σ ih=>exact .cons (.inl rfl) ih
section
variable {k k₂ : Kn} (l : AdLe k.ad k₂.ad)
include l
theorem RelV.down (x : SV) : ∀ ⦃v v₂⦄,RelV k x v → RelV k₂ x v₂ → RelV ⟨k₂.tps,k.ad⟩ x v₂ :=
  @SV.rec (fun x=>∀ ⦃v v₂⦄,RelV k x v → RelV k₂ x v₂ → RelV ⟨k₂.tps,k.ad⟩ x v₂) (fun xs=>∀ ⦃vs vs₂⦄,RelVs k xs vs → RelVs k₂ xs vs₂ → RelVs ⟨k₂.tps,k.ad⟩ xs vs₂) (fun _ _ _ _ r=>r)
    (fun i _ _ r r'=>let ⟨a,ha,_⟩:=r; let ⟨b,hb,e⟩:=r'; ⟨b,Option.some.inj ((l _ _ ha).symm.trans hb) ▸ ha,e⟩) (fun xs ih v v₂ r r'=>relV_el (P:=fun _=>RelV ⟨k₂.tps,k.ad⟩ (.tup xs) v₂) r fun a vs _ rs=>relV_el (P:=fun v₂=>RelV ⟨k₂.tps,k.ad⟩ (.tup xs) v₂) r' fun b ws m rs'=>relV_tup.mpr ⟨b,ws,rfl,m,ih rs rs'⟩) (fun _ _ _ _ r=>r) (fun _ _ _ _ r=>r) (fun _ _ _ _ r=>r)
    (fun _ _ _ r=>r) (fun x xs h1 h2 vs vs₂ r r'=>r.el (P:=fun _=>RelVs ⟨k₂.tps,k.ad⟩ (x :: xs) vs₂) fun v vs a b=>r'.el (P:=fun vs₂=>RelVs ⟨k₂.tps,k.ad⟩ (x :: xs) vs₂) fun w ws a' b'=>.cons (h1 a a') (h2 b b')) x
theorem RelO.down {V : Vx} (o : SO) {ob ob₂ : Obj} : RelO V k o ob → RelO V k₂ o ob₂ → RelO V ⟨k₂.tps,k.ad⟩ o ob₂:=by
  cases o with
  | ls xs=>exact fun r r'=>let ⟨vs,_,_,rs⟩:=r; LsR.mono r' fun ws rs'=>All2.comb (fun x _ _ a b=>RelV.down l x a b) rs rs'
  | di es=>exact fun r r'=>let ⟨_,ds,_,_,re⟩:=r; let ⟨nd,ds',n,ho,re'⟩:=r'; ⟨nd,ds',n,ho,All2.comb (fun p _ _ a b=>⟨b.1,b.2.1,RelV.down l p.2 a.2.2 b.2.2⟩) re re'⟩
  | inst c d=>exact fun r r'=>let ⟨a,ha,_⟩:=r; let ⟨b,hb,e⟩:=r'; ⟨b,Option.some.inj ((l _ _ ha).symm.trans hb) ▸ ha,e⟩
  | sd x=>exact fun _ r'=>⟨r'.1,r'.2.1,let ⟨ds,n,ho,re⟩:=r'.2.2; ⟨ds,n,ho,dataE (f:=fun _=>none) (fun _ _ _ e=>nS e) _ re⟩⟩
  | as j rs=>exact fun r r'=>let ⟨as,ha,_⟩:=r; let ⟨bs,hb,ho⟩:=r'; ⟨bs,All2.comb (T:=fun i b=>k.ad[i]? = some b) (fun i a b h1 h2=>h1.trans ((l _ _ h1).symm.trans h2)) ha hb,ho⟩
  | _=>exact fun _ r'=>r'
end
section
variable {G : Cx} {n : Nat} {T : Tab} {R : Rec} {c : Ct} {W W₂ : Wd} {sc : Scope} {ρ : Rho} {σ σ₂ : Sto} {h h₂ : Heap} {ifs : List Expr} {elt : Expr} {x : Str} {env : Env} {cm : Str → Option Value}
theorem Fy.first {c₀ : Ct} {τ : Sto} (Y : Fy G c₀ W σ h) (Y₂ : Fy G c W₂ σ₂ h₂) (mo : More W W₂) (tu : Tu σ τ) (ht : σ₂.take τ.length = τ) : Fy G c ⟨W₂.led.take τ.length,W₂.tps⟩ τ h₂ ∧ More W ⟨W₂.led.take τ.length,W₂.tps⟩:=by
  obtain ⟨r,hr⟩:=adLe_pre (show AdLe (W.led.map fun p=>p.1) (W₂.led.map fun p=>p.1) from mo.ad)
  have hn : τ.length = (W.led.map (·.1)).length:=by rw [List.length_map,Y.S.rel.length,tu.length]
  have ead : (W₂.led.take τ.length).map (·.1) = W.led.map (·.1):=by rw [List.map_take,hr,hn,List.take_left]
  have kn : Wd.kn ⟨W₂.led.take τ.length,W₂.tps⟩ = ⟨W₂.tps,W.led.map (·.1)⟩:=congrArg (Kn.mk W₂.tps) ead
  have sub : ∀ p ∈ W₂.led.take τ.length,p ∈ W₂.led:=fun p hp=>List.mem_of_mem_take hp
  refine ⟨⟨Y₂.Z,Y₂.F,fun p hp=>Y₂.N p ?_,fun p hp=>Y₂.lo p (sub p hp),fun p hp q hq=>Y₂.AC p hp q (sub q hq),⟨?_,by rw [ead]; exact Y.S.nodup,Y₂.S.tup⟩⟩,by unfold More; rw [kn]; exact ⟨mo.tps,fun _ _ h=>h⟩⟩
  · exact mem3.mpr ((mem3.mp hp).imp id fun h=>h.imp (sub p) id)
  · rw [kn]
    have R₂ : RelOs G.V W₂.kn (σ₂.take τ.length) (W₂.led.take τ.length):=All2.take τ.length Y₂.S.rel
    rw [ht] at R₂
    have R₁ : All2 (fun o p=>RelO G.V W.kn o p.2 ∨ leafO o = true) τ W.led:=All2.conv (fun _ _ _ f r=>f.elim (fun f=>.inl (f ▸ r)) .inr) tu Y.S.rel
    exact All2.comb (fun o _ _ a b=>a.elim (fun a=>RelO.down (k:=W.kn) (k₂:=W₂.kn) mo.ad o a b) fun e=>by cases o <;> first | exact b | exact nT e) R₁ R₂
theorem StepT.first {r : Option D} {τ : Sto} (h : StepT G n sc ifs elt ρ σ (r.map .d) σ₂) (tu : Tu σ τ) (hs : sameS τ σ₂ = true) : StepT G n sc ifs elt ρ σ (r.map .d) τ:=fun c env cm W E QT QN s hA X kn kt =>
  h hA X (fun h' tk W' e X' m=>let ⟨Y₃,m₃⟩:=X.Y.first X'.Y m tu (sameS_take _ _ hs); kn e (X.back Y₃ m₃) m₃) fun y v h' tk W' e X' rv m=>by
    obtain ⟨Y₃,m₃⟩:=X.Y.first X'.Y m tu (sameS_take _ _ hs)
    refine kt e (X.back Y₃ m₃) ?_ m₃
    cases r with
    | none=>exact nS e
    | some d=>cases e; exact rv
theorem elem_s (ok : EvOk G n R.ev) (tok : TstOk G n R.tst) {v : SV} : Sat (elem R sc x v ifs elt ρ σ) fun r=>StepT G n sc ifs elt ((x,v) :: ρ) σ (r.map .d) σ:=by
  refine .bS (evIfs_s tok ifs σ) fun b σ₁ h=>?_
  cases b with
  | true=>exact .bS (ok sc elt _ σ₁) fun y σ₂ h2 r e=>Sat.vD (P:=fun y r=>EvT G n sc elt ((x,v) :: ρ) σ₁ y σ₂ → StepT G n sc ifs elt ((x,v) :: ρ) σ (r.map .d) σ) (fun y=>.gd fun hs=>.yes (r:=some y) fun h2=>StepT.first (r:=some y) (StepT.take h h2) .refl hs) e h2
  | false=>exact .gd fun hs=>.yes (StepT.first (r:=none) (StepT.skip h) .refl hs)
end
structure TabAt (G : Cx) (n : Nat) (T : Tab) : Prop where
  call : ∀ a q,T.call a = some q → ∀ g,(q.1 = false → g = G.V.obj) → FnOk (G.obj g) n a q.2
  comp : ∀ l c q,T.comp l c = some q → ∀ ρ σ,Sat (q.2.2 ρ σ) fun r=>EvT G n q.1 q.2.1 ρ σ r.1 r.2 ∧ ∀ elt gens scope pos,q.2.1 = .ListComp elt gens scope pos → CmT G n q.1 elt gens scope pos ρ σ r.1 r.2
  loop : ∀ l c q,T.loop l c = some q → ∀ ρ σ,Sat (q.2.2 ρ σ) (U3 (StT G n q.1 q.2.1 ρ σ))
structure TabOk (G : Cx) (T : Tab) : Prop where
  facts : FactsOk G.V T.F
  tab : TabAt G T.need T
structure RecOk (G : Cx) (n : Nat) (R : Rec) : Prop where
  ev : EvOk G n R.ev
  cm : CmOk G n R.ev
  tst : TstOk G n R.tst
  ex : ExOk G n R.ex
  call : ∀ a,FnOk G n a (R.call a)
  dom : CallDom R
section
variable {G : Cx} {n k : Nat} {T : Tab} {sc : Scope} {ρ ρ' : Rho} {σ σ' : Sto}
theorem EvT.le {e : Expr} {sv : SV} (h : EvT G n sc e ρ σ sv σ') (hk : n ≤ k) : EvT G k sc e ρ σ sv σ':=fun _ _ _ _ _ _ _ hA X kk=>h (hA.le hk) X kk
theorem CmT.le {scope : Scope} {elt : Expr} {gens : List Comprehension} {pos : Pos} {sv : SV} (h : CmT G n sc elt gens scope pos ρ σ sv σ') (hk : n ≤ k) : CmT G k sc elt gens scope pos ρ σ sv σ':=fun _ _ _ _ _ _ _ _ _ _ _ hA X kk=>h (hA.le hk) X kk
theorem StT.le {e : Stmt} {out : Out} (h : StT G n sc e ρ σ out ρ' σ') (hk : n ≤ k) : StT G k sc e ρ σ out ρ' σ':=fun _ _ _ _ _ _ _ _ _ _ hA X kk=>h (hA.le hk) X kk
theorem ExT.le {l : List Stmt} {out : Out} (h : ExT G n sc l ρ σ out ρ' σ') (hk : n ≤ k) : ExT G k sc l ρ σ out ρ' σ':=fun _ _ _ _ _ _ _ _ _ _ hA X kk=>h (hA.le hk) X kk
theorem FnT.le {a : Nat} {args : List SV} {sv : SV} (h : FnT G n a args σ sv σ') (hk : n ≤ k) : FnT G k a args σ sv σ':=fun _ _ _ _ _ hA Y r kk=>h (hA.le hk) Y r kk
theorem FnOk.le {a : Nat} {F : Fn} (h : FnOk G n a F) (hk : n ≤ k) : FnOk G k a F:=fun args σ=>(h args σ).mono fun r h=>FnT.le h hk
theorem TabAt.le (h : TabAt G n T) (hk : n ≤ k) : TabAt G k T :=
  ⟨fun a q e g hg=>(h.call a q e g hg).le hk,fun l c q e ρ σ=>(h.comp l c q e ρ σ).mono fun r h=>⟨h.1.le hk,fun elt gens scope pos e=>(h.2 elt gens scope pos e).le hk⟩,fun l c q e ρ σ=>(h.loop l c q e ρ σ).mono fun r h=>StT.le h hk⟩
theorem TabOk.at (h : TabOk G T) (n : Nat) : TabOk G (T.at n) ∧ TabAt G n (T.at n):=by
  unfold Tab.at
  cases q : Nat.ble T.need n with
  | true=>exact ⟨h,h.tab.le (Nat.le_of_ble_eq_true q)⟩
  | false=>exact ⟨⟨h.facts,⟨fun _ _ e=>nS e,fun _ _ _ e=>nS e,fun _ _ _ e=>nS e⟩⟩,⟨fun _ _ e=>nS e,fun _ _ _ e=>nS e,fun _ _ _ e=>nS e⟩⟩
theorem TabOk.add (h : TabOk G T) {l : LX} {k : Nat} {a : D} (hk : (den G.V.val l)[k]? = some a) : TabOk G (addAt T l k a):=⟨h.facts.addAt hk,⟨h.tab.call,h.tab.comp,h.tab.loop⟩⟩
end
section
variable {G : Cx} {n : Nat} {R : Rec} {sc sc' : Scope} {x : Str} {ifs : List Expr} {elt : Expr} {ρ : Rho} {σ σ' : Sto} {S : Sto → Prop}
theorem compL_s (ok : EvOk G n R.ev) (tok : TstOk G n R.tst) {src : Option (Nat × SO)} (hs : ∀ σ,stays src σ = true → S σ) (items : List SV) : ∀ σ,Sat (compL R sc' x ifs elt ρ src items σ) fun r=>Elems G n sc' x ifs elt ρ S items σ r.1 r.2:=by
  induction items with
  | nil=>exact fun σ=>.yes ⟨rfl,rfl⟩
  | cons v r ih =>
    intro σ
    show Sat (ob (evIfs R sc' ((x,v) :: ρ) ifs σ) fun b σ=>bI b (ob (R.ev sc' elt ((x,v) :: ρ) σ) fun y σ=>gd (stays src σ) (ob (compL R sc' x ifs elt ρ src r σ) fun ys σ=>some (y :: ys,σ))) (gd (stays src σ) (compL R sc' x ifs elt ρ src r σ))) _
    refine .bS (evIfs_s tok ifs σ) fun b σ₁ h=>?_
    refine .bI (fun hb=>?_) fun hb=>?_
    · subst hb
      exact .bS (ok sc' elt _ σ₁) fun y σ₂ h2=>.gd fun st=>.ob fun ys σ₃ e=>.yes (r:=(y :: ys,σ₃)) ⟨some y,σ₂,ys,StepT.take h h2,hs _ st,ih σ₂ e,rfl⟩
    · subst hb
      exact .gd fun st=>(ih σ₁).mono fun q e=>⟨none,σ₁,q.1,StepT.skip h,hs _ st,e,rfl⟩
noncomputable def TblR (Q : D → Option D → Prop) (al : List D) (t : List (D × Option D)) : Prop:=∀ a ∈ al,Q a (tabD t a) ∧ ∃ p ∈ t,p.2 = tabD t a
theorem tabD_cons {b : D} {y : Option D} {t : List (D × Option D)} {a : D} : tabD ((b,y) :: t) a = bI (sameD b a) y (tabD t a):=by
  show oo (bI (sameD b a) _ _) _ = _
  cases sameD b a <;> rfl
theorem tbl_s {Q : D → Option D → Prop} {g : D → Option (Option D)} (hg : ∀ a,Sat (g a) (Q a)) (al : List D) : Sat (mapM (fun a=>om (g a) fun y=>(a,y)) al) (TblR Q al):=by
  induction al with
  | nil=>exact .yes zero
  | cons b r ih =>
    refine .oo fun p hp=>.om fun t e=>?_
    obtain ⟨y,hy,hp⟩:=oo_i (show oo (g b) (fun y=>some (b,y)) = some p from hp)
    cases hp
    have h:=ih e
    refine two ⟨?_,(b,y),.head _,?_⟩ fun a ha=>?_
    · rw [tabD_cons,sameD_self]; exact hg b hy
    · rw [tabD_cons,sameD_self]; rfl
    · rw [tabD_cons]
      cases q : sameD b a with
      | true=>exact ⟨sameD_eq b a q ▸ hg b hy,(b,y),.head _,rfl⟩
      | false=>exact ⟨(h a ha).1,(h a ha).2.imp fun p h=>h.imp_left (.tail _)⟩
theorem compT_elems {al : List D} {t : List (D × Option D)} (hS : S σ) (h : TblR (fun a r=>StepT G n sc' ifs elt ((x,.d a) :: ρ) σ (r.map .d) σ) al t) (xs : List D) : (∀ a ∈ xs,a ∈ al) → Elems G n sc' x ifs elt ρ S (xs.map .d) σ ((xs.filterMap (tabD t)).map .d) σ:=by
  induction xs with
  | nil=>exact fun _=>⟨rfl,rfl⟩
  | cons a xs ih =>
    refine fun ha=>⟨_,σ,_,(h a (ha a (.head _))).1,hS,ih fun b hb=>ha b (.tail _ hb),?_⟩
    rw [List.filterMap_cons]
    cases tabD t a <;> rfl
theorem someOf_mem {y : D} {t : List (D × Option D)} {p : D × Option D} (h : p ∈ t) (e : p.2 = some y) : y ∈ someOf t:=by
  induction t with
  | nil=>exact absurd h List.not_mem_nil
  | cons q r ih =>
    show y ∈ @Option.rec D (fun _=>List D) (someOf r) (fun y=>y :: someOf r) q.2
    rcases List.mem_cons.mp h with rfl | h
    · rw [e]; exact .head _
    · cases q.2 with
      | none=>exact ih h
      | some z=>exact .tail _ (ih h)
theorem allSome_at {t : List (D × Option D)} (h : allSome t = true) : ∀ p ∈ t,p.2.isSome = true:=by
  induction t with
  | nil=>exact zero
  | cons q r ih=>exact two (bA_i h).1 (ih (bA_i h).2)
theorem den_mkX {val : Nat → List D} {t : List (D × Option D)} {l : LX} (h : ∀ a ∈ den val l,∃ p ∈ t,p.2 = tabD t a) : den val (mkX t l) = (den val l).filterMap (tabD t):=by
  unfold mkX
  cases hs : allSome t with
  | false=>rfl
  | true =>
    show (den val l).map (mapT t) = _
    generalize den val l = xs at h
    induction xs with
    | nil=>rfl
    | cons a xs ih =>
      obtain ⟨p,hp,e⟩:=h a (.head _)
      have hne:=allSome_at hs p hp
      rw [e] at hne
      rw [List.map_cons,List.filterMap_cons,ih fun b hb=>h b (.tail _ hb)]
      unfold mapT
      cases q : tabD t a with
      | none=>rw [q] at hne; exact nT hne
      | some y=>rfl
theorem relVs_toD {k : Kn} (xs : List D) : ∀ {ws : List Value},RelVs k (xs.map .d) ws → RelDs k.tps xs ws:=by
  induction xs with
  | nil=>exact fun r=>r
  | cons x xs ih=>exact fun r=>r.el fun v r' h1 h2=>.cons h1 (ih h2)
theorem listIs_tab {al : List D} {m : Nat} {l : LX} {t : List (D × Option D)} {Q : D → Option D → Prop} (h : TblR Q al t) (hM : SyM G.V m al l) : ListIs G (((den G.V.val l).filterMap (tabD t)).map .d) (.sy m (someOf t) (mkX t l)):=fun k ws j r=>by
  have hd : den G.V.val (mkX t l) = (den G.V.val l).filterMap (tabD t):=den_mkX fun a ha=>(h a (hM.1 a ha)).2
  refine ⟨ws,j,rfl,?_,?_,by rw [hd]; exact relVs_toD _ r⟩
  · rw [hd]
    intro y hy
    obtain ⟨a,ha,e⟩:=List.mem_filterMap.mp hy
    obtain ⟨p,hp,e'⟩:=(h a (hM.1 a ha)).2
    exact someOf_mem hp (e'.trans e)
  · rw [hd]; exact Nat.le_trans (List.length_filterMap_le _ _) hM.2
noncomputable abbrev ints' (k m : Nat) : List SV:=(List.range' k m).map fun (j : Nat)=>.d (.int (j : Int))
theorem range_ints (m : Nat) : range 0 (0 + (m : Int)) = ints' 0 m:=by
  rw [range_is,List.range_eq_range']
  exact List.map_congr_left fun j _=>by rw [Int.zero_add]
structure IdxR (G : Cx) (n : Nat) (sc' : Scope) (x : Str) (ifs : List Expr) (elt : Expr) (ρ : Rho) (S : Sto → Prop) (σ : Sto) (k : Nat) (ts : List (List (D × Option D))) (r : List D) : Prop where
  el : Elems G n sc' x ifs elt ρ S (ints' k r.length) σ ((idxMap ts r).map .d) σ
  mem : ∀ y ∈ idxMap ts r,y ∈ someOfs ts
  len : (idxMap ts r).length ≤ r.length
theorem compIs_s {RR : LX → Nat → D → Rec} {l : LX} {al : List D} (hS : S σ) (ro : ∀ k a,(den G.V.val l)[k]? = some a → EvOk G n (RR l k a).ev ∧ TstOk G n (RR l k a).tst) (m : Nat) : ∀ k,Sat (compIs RR sc' x ifs elt ρ σ l al k m) fun ts=>(∀ a ∈ den G.V.val l,a ∈ al) → ∀ r,r = (den G.V.val l).drop k → r.length ≤ m → IdxR G n sc' x ifs elt ρ S σ k ts r:=by
  have nil : ∀ {k ts},IdxR G n sc' x ifs elt ρ S σ k ts []:=fun {k ts}=>by
    have e : idxMap ts [] = []:=by cases ts <;> rfl
    exact ⟨by rw [e]; exact ⟨rfl,rfl⟩,by rw [e]; exact zero,by rw [e]; exact Nat.le_refl _⟩
  induction m with
  | zero=>exact fun k=>.yes fun _ r _ h=>List.eq_nil_of_length_eq_zero (Nat.le_zero.mp h) ▸ nil
  | succ m ih =>
    intro k
    show Sat (oo (compI RR sc' x ifs elt ρ σ l k al) fun t=>om (compIs RR sc' x ifs elt ρ σ l al (k + 1) m) (t :: ·)) _
    refine .oS (tbl_s (Q:=fun a r=>(den G.V.val l)[k]? = some a → StepT G n sc' ifs elt ((x,.d (.int k)) :: ρ) σ (r.map .d) σ) (fun a r e h=>elem_s (ro k a h).1 (ro k a h).2 e) al) fun t ht=>.om fun ts e hal r hr hm=>?_
    cases r with
    | nil=>exact nil
    | cons a r =>
      obtain ⟨hget,hr⟩:=drop_i hr
      obtain ⟨st,p,hp,ep⟩:=ht a (hal a (List.mem_of_getElem? hget))
      have rest:=ih (k + 1) e hal r hr (Nat.le_of_succ_le_succ hm)
      have hi : idxMap (t :: ts) (a :: r) = optC (tabD t a) (idxMap ts r):=rfl
      have hsm : someOfs (t :: ts) = someOf t ++ someOfs ts:=K.app_eq _ _
      have hts : ∀ y,tabD t a = some y → y ∈ someOf t:=fun y e=>someOf_mem hp (ep.trans e)
      have st:=st hget
      refine ⟨?_,?_,?_⟩
      · rw [show ints' k (a :: r).length = .d (.int k) :: ints' (k + 1) r.length from congrArg (List.map _) List.range'_succ]
        refine ⟨_,σ,_,st,hS,rest.el,?_⟩
        rw [hi]
        cases tabD t a <;> rfl
      · rw [hi,hsm]
        intro y hy
        cases q : tabD t a with
        | none=>rw [q] at hy; exact List.mem_append_right _ (rest.mem y hy)
        | some z =>
          rw [q] at hy
          exact (List.mem_cons.mp hy).elim (fun e=>List.mem_append_left _ (hts y (e ▸ q))) fun hy=>List.mem_append_right _ (rest.mem y hy)
      · rw [hi]
        cases tabD t a with
        | none=>exact Nat.le_succ_of_le rest.len
        | some z=>exact Nat.succ_le_succ rest.len
end
section
variable {G : Cx} {n : Nat} {T : Tab} {R : Rec} {sc sc' : Scope} {x : Str} {ifs : List Expr} {elt it : Expr} {ρ : Rho} {σ σ₁ σ' : Sto} {pos px : Pos}
theorem GoT.known {M M' : Prop} {stay : Sto → Prop} {items items' : List SV} (h : GoT G n sc it ρ σ M stay items σ₁) (hm : ∀ {c W h},Fy G c W σ₁ h → M → M' ∧ items = items') : GoT G n sc it ρ σ M' stay items' σ₁:=fun c env cm W E Q s hA X k=>h hA X fun S I ob h tk W' m ok hs ha hi hr X' mo=>by
  obtain ⟨m',rfl⟩:=hm X'.Y m
  exact k m' ok hs ha hi hr X' mo
theorem len_sy {i m : Nat} {al : List D} {l : LX} (e1 : σ[i]? = some (.sy m al l)) (hm : m ≤ 1000) : OpT G n (.builtin "len") [.ref i] σ (.d (.int (den G.V.val l).length)) σ:=.ref e1 fun c W E Q s us a ob hA Y r hl ro hg k=>by
  cases (show us = [] from r)
  obtain ⟨ws,m',rfl,_,hz,rd⟩:=ro
  have hw : ws.length = (den G.V.val l).length:=All2.length rd
  exact len_list (items:=ws.toArray) ⟨_,hg,rfl,m',rfl⟩ (by rw [List.size_toArray,hw]; exact le63 (Nat.le_trans hz (Nat.le_trans hm (by decide)))) (by rw [List.size_toArray,hw]; exact k.here Y relV_int)
theorem isLen_i {f : Str} (h : isLen sc f ρ = true) : aName sc f ρ σ = some (.bi .len,σ):=by
  have hf:=bA_i h
  have hn : nameV sc f ρ = some (.bi .len):=by
    cases q : nameV sc f ρ with
    | none=>have h:=hf.2; rw [q] at h; exact nT h
    | some v =>
      have h:=hf.2
      rw [q] at h
      cases v with
      | bi t=>induction t <;> first | rfl | exact nT h
      | _=>exact nT h
  unfold aName
  rw [hn,show (!seq f (Str.ofString "__debug__")) = true by rw [seq_eq hf.1]; decide]
  rfl
structure OverT (G : Cx) (n : Nat) (sc : Scope) (ρ : Rho) (e : Expr) (σ : Sto) (m : Nat) (al : List D) (l : LX) (σ' : Sto) : Prop where
  kn : Mine.known e = true
  go : GoT G n sc e ρ σ (SyM G.V m al l) (fun _=>True) (range 0 (0 + (den G.V.val l).length)) σ'
noncomputable abbrev OverQ (G : Cx) (n : Nat) (sc : Scope) (ρ : Rho) (e : Expr) (σ : Sto) (q : Nat × List D × LX × Sto) : Prop:=OverT G n sc ρ e σ q.1 q.2.1 q.2.2.1 q.2.2.2
theorem overOf_s (ko : KOk G) (ok : EvOk G n R.ev) (e : Expr) : Sat (overOf R sc ρ e σ) (OverQ G n sc ρ e σ):=by
  refine .eFn fun f fp args p he=>.gd fun hf=>?_
  subst he
  refine .l1 (P:=fun args=>OverQ G n sc ρ (.Call (.Name f fp) args [] p) σ) fun a=>.eFn fun g gp args' p' ha=>.gd fun hg=>?_
  subst ha
  refine .l1 (P:=fun _=>OverQ G n sc ρ (.Call (.Name f fp) [.Call (.Name g gp) args' [] p'] [] p) σ) fun _=>.bS (evL_s ok args' σ) fun vs σ₁ t r e=>?_
  refine Sat.l1 (P:=fun vs q=>EvsT G n sc ρ args' σ vs σ₁ → OverQ G n sc ρ (.Call (.Name f fp) [.Call (.Name g gp) args' [] p'] [] p) σ q) (fun v=>.vRef (P:=fun v q=>EvsT G n sc ρ args' σ [v] σ₁ → OverQ G n sc ρ (.Call (.Name f fp) [.Call (.Name g gp) args' [] p'] [] p) σ q) fun i=>.aSy fun m al l e1=>.gle fun hm=>.yes fun t=>?_) e t
  have hl : EvT G n sc (.Call (.Name g gp) args' [] p') ρ σ (.d (.int (den G.V.val l).length)) σ₁:=EvT.fn (fun _=>rfl) (EvT.name ko (isLen_i hg)) t fun k vf r=>(show vf = .builtin "len" from r) ▸ ⟨len_sy e1 hm,keepOk_builtin _⟩
  have sy : ∀ {c W h},Fy G c W σ₁ h → SyM G.V m al l:=fun Y=>by
    obtain ⟨p,_,ws,_,_,r⟩:=Y.S.obj e1
    exact ⟨r.1,r.2.1⟩
  refine ⟨rfl,?_⟩
  by_cases hL : SyM G.V m al l
  · refine (GoT.range ko hf (lo:=0) (hi:=(den G.V.val l).length) (.cons rfl hl .nil) (.inl ⟨rfl,rfl⟩) ⟨by decide,by decide,Int.le_trans (by decide) (Int.natCast_nonneg _),Int.ofNat_le.mpr (Nat.le_trans hL.2 hm)⟩).known fun Y _=>⟨hL,by rw [Int.sub_zero]; rfl⟩
  · intro c env cm W E Q s hA X k
    exact (GoT.range ko hf (lo:=0) (hi:=0) (.cons rfl (v:=.d (.int 0)) (EvT.fn (fun _=>rfl) (EvT.name ko (isLen_i hg)) t fun k vf r=>(show vf = .builtin "len" from r) ▸ ⟨fun c W E Q s vals hA Y _ _=>absurd (sy Y) hL,keepOk_builtin _⟩) .nil) (.inl ⟨rfl,rfl⟩) (by decide)) hA X fun S I ob h tk W' _ _ _ _ _ _ X' _=>absurd (sy ⟨⟨X'.Y.Z.B,X'.Y.Z.fro,X'.Y.Z.X,X'.Y.Z.T,X'.Y.Z.kept⟩,X'.Y.F,X'.Y.N,X'.Y.lo,X'.Y.AC,X'.Y.S⟩) hL
noncomputable def CompB (G : Cx) (n : Nat) (sc : Scope) (elt : Expr) (gs : List Comprehension) (sc' : Scope) (pos : Pos) (ρ : Rho) (σ : Sto) (sv : SV) (σ' : Sto) : Prop:=EvT G n sc (.ListComp elt gs sc' pos) ρ σ sv σ' ∧ CmT G n sc elt gs sc' pos ρ σ sv σ'
theorem comp_both {M : Prop} {stay : Sto → Prop} {items ys : List SV} {o : SO} (co : ClsOk G.K) (hcs : CompSc sc sc' x ρ) (hf : known it = true) (go : GoT G n sc it ρ σ M stay items σ₁) (el : M → Elems G n sc' x ifs elt ρ stay items σ₁ ys σ') (ho : M → ListIs G ys o) : CompB G n sc elt [⟨.Name x px,it,ifs,0⟩] sc' pos ρ σ (.ref σ'.length) (σ' ++ [o]) :=
  ⟨comp_ev co hcs hf go el ho,comp_cm co hcs hf go el ho⟩
variable {RT : Tab → Rec}
theorem comp1_s (ko : KOk G) (H : ∀ T',TabOk G T' → RecOk G n (RT T')) (tk : TabOk G T) : Sat (comp1 T RT sc elt x it ifs sc' ρ σ) (U2 (CompB G n sc elt [⟨.Name x px,it,ifs,0⟩] sc' pos ρ σ)):=by
  have ro:=H T tk
  refine .gd fun hcs=>?_
  have hcs:=compSc_i hcs
  refine .oe (.oS (overOf_s (n:=n) ko ro.ev it) fun q h=>.oS (compIs_s (S:=fun _=>True) trivial (fun k a hk=>⟨(H _ (tk.add hk)).ev,(H _ (tk.add hk)).tst⟩) q.1 0) fun ts ht=>.nw ?_) (.bS (iterOf_s ko ro.ev it) fun r σ₁ h=>?_)
  · have ix:=fun hM : SyM G.V q.1 q.2.1 q.2.2.1=>ht hM.1 _ rfl hM.2
    exact comp_both ko.cls hcs h.kn h.go (fun hM=>by rw [range_ints]; exact (ix hM).el) fun hM k ws j r=>⟨ws,j,rfl,fun y hy=>(ix hM).mem y hy,Nat.le_trans (ix hM).len hM.2,relVs_toD _ r⟩
  · cases r with
    | range lo k=>exact .bS (compL_s (S:=fun _=>True) ro.ev ro.tst (fun _ _=>trivial) _ σ₁) fun ys σ₂ el=>.nw (comp_both ko.cls hcs h.kn h.go (fun _=>el) fun _ k ws j r=>relO_mkL r)
    | list i o xs=>exact .bS (compL_s (S:=fun σ=>σ[i]? = some o) ro.ev ro.tst (fun σ h=>stays_i h) _ σ₁) fun ys σ₂ el=>.nw (comp_both ko.cls hcs h.kn h.go (fun _=>el) fun _ k ws j r=>relO_mkL r)
    | sy i m al l=>exact .oS (tbl_s (fun a=>elem_s ro.ev ro.tst) al) fun t ht=>.nw (comp_both ko.cls hcs h.kn h.go (fun hM=>compT_elems h.here ht _ hM.1) fun hM=>listIs_tab ht hM)
theorem aComp_s (ko : KOk G) (H : ∀ T',TabOk G T' → RecOk G n (RT T')) (tk : TabOk G T) (tn : TabAt G n T) (elt : Expr) (gs : List Comprehension) (sc' : Scope) (pos : Pos) : Sat (aComp T RT sc elt gs sc' pos ρ σ) (U2 (CompB G n sc elt gs sc' pos ρ σ)):=by
  unfold aComp
  cases hc : T.comp pos.line pos.col with
  | none =>
    refine .l1 (P:=fun gs=>U2 (CompB G n sc elt gs sc' pos ρ σ)) fun g=>.gd fun ha=>.eName fun x px hx=>?_
    obtain ⟨t,i,fs,a⟩:=g
    cases (show t = _ from hx)
    cases (show a = 0 from of_decide_eq_true ha)
    exact comp1_s ko H tk
  | some q =>
    refine .gd fun h1=>.gd fun h2=>(tn.comp _ _ q hc ρ σ).mono fun r h=>?_
    have h2:=eqEx_eq 30 _ _ h2
    rw [← sameSc_eq _ _ h1,← h2] at h
    exact ⟨h.1,h.2 _ _ _ _ rfl⟩
end
theorem lookup_zip_cons {α : Type} {x y : Str} {v : α} {xs : List Str} {vs : List α} : ((y :: xs).zip (v :: vs)).lookup x = if x = y then some v else (xs.zip vs).lookup x:=by
  rw [List.zip_cons_cons,List.lookup_cons]
  by_cases q : x = y
  · rw [if_pos q,beq_iff_eq.mpr q]
  · rw [if_neg q,beq_eq_false_iff_ne.mpr q]
theorem lookup_zip_none {x : Str} {xs : List Str} : ∀ {vs : List Value},x ∉ xs → (xs.zip vs).lookup x = none:=by
  induction xs with
  | nil=>exact fun _=>rfl
  | cons y xs ih =>
    intro vs h
    cases vs with
    | nil=>rfl
    | cons v vs =>
      rw [List.mem_cons,not_or] at h
      rw [lookup_zip_cons,if_neg h.1]
      exact ih h.2
theorem lookup_zip_some {x : Str} {xs : List Str} : ∀ {vs : List Value},x ∈ xs → xs.length ≤ vs.length → ((xs.zip vs).lookup x).isNone = false:=by
  induction xs with
  | nil=>exact fun h _=>absurd h List.not_mem_nil
  | cons y xs ih =>
    intro vs h hl
    cases vs with
    | nil=>exact absurd hl (Nat.not_succ_le_zero _)
    | cons v vs =>
      rw [lookup_zip_cons]
      by_cases q : x = y
      · rw [if_pos q]; rfl
      · rw [if_neg q]; exact ih ((List.mem_cons.mp h).resolve_left q) (Nat.le_of_succ_le_succ hl)
theorem filterMap_zip {xs : List Str} : ∀ {vs : List Value} {z : List (Str × Value)},xs.Nodup → xs.length = vs.length → (∀ x ∈ xs,z.lookup x = (xs.zip vs).lookup x) → xs.filterMap (fun n=>(z.lookup n).map (n,·)) = xs.zip vs:=by
  induction xs with
  | nil=>exact fun _ _ _=>rfl
  | cons y xs ih =>
    intro vs z nd h k
    cases vs with
    | nil=>exact nomatch h
    | cons v vs =>
      rw [List.nodup_cons] at nd
      have h0:=k y (.head _)
      rw [lookup_zip_cons,if_pos rfl] at h0
      rw [List.filterMap_cons,h0]
      refine congrArg ((y,v) :: ·) (ih nd.2 (Nat.succ.inj h) fun x hx=>?_)
      rw [k x (.tail _ hx),lookup_zip_cons,if_neg (fun q : x = y=>nd.1 (q ▸ hx))]
theorem zip_snoc {x : Str} {d : Value} {xs : List Str} : ∀ {vs : List Value},xs.length = vs.length → (xs ++ [x]).zip vs ++ [(x,d)] = (xs ++ [x]).zip (vs ++ [d]):=by
  induction xs with
  | nil =>
    intro vs h
    cases List.eq_nil_of_length_eq_zero h.symm
    rfl
  | cons y xs ih =>
    intro vs h
    cases vs with
    | nil=>exact nomatch h
    | cons v vs=>exact congrArg ((y,v) :: ·) (ih (Nat.succ.inj h))
structure PlainArgs (a : Arguments) : Prop where
  pos : a.posonlyargs = []
  kwo : a.kwonlyargs = []
  var : a.vararg = none
  kw : a.kwarg = none
  nd : (a.args.map (·.arg)).Nodup
section
variable {M : Model} {A : Around} {E : Value → Shared → Prop} {s : Shared} {Q : List (Str × Value) → Shared → Prop} {fd : FuncData} {vals : List Value}
noncomputable def DfIs (s : Shared) (v : Value) (ds : List Value) : Prop :=
  ∀ (M : Model) (A : Around) (E : Value → Shared → Prop) (Q : Option (Array Value) → Shared → Prop),(∀ o : Option (Array Value),(o.getD #[]).toList = ds → Q o s) → wpAny M A (seqItems? v) Q E s
theorem dfIs_none : DfIs s .none []:=fun M A E Q h=>by
  show wpAny M A (do notAStandIn .none; pure none) Q E s
  exact wpAny_bind (wpAny_pure (wpAny_pure (h _ rfl)))
theorem dfIs_tuple {T : Addr} {o : Obj} {xs : Array Value} {n : Nat} (ho : s.heap.get? T = some o) (hd : o.data = .seq xs n) : DfIs s (.ref T) xs.toList:=fun M A E Q h=>wpAny_seqItems ho hd (h _ rfl)
theorem bindArgs_all (P : PlainArgs fd.params) {ds : List Value} (D : DfIs s fd.defaults ds) (hv : (fd.params.args.map (·.arg)).length = vals.length) : BindsTo s fd ⟨vals,[]⟩ ((fd.params.args.map (·.arg)).zip vals):=by
  intro M A E Q h
  unfold bindArgs
  simp only [P.pos,P.kwo,P.var,P.kw,List.map_nil,List.nil_append,List.append_nil,List.forIn_nil,pure_bind,Option.isNone_none,Bool.and_true]
  refine wpAny_bind (D _ _ _ _ fun o ho=>?_)
  generalize hxs : fd.params.args.map (fun x : Arg=>x.arg) = xs at *
  have nd : xs.Nodup:=hxs ▸ P.nd
  have hn : ∀ x ∈ xs,((xs.zip vals).lookup x).isNone = false:=fun x hx=>lookup_zip_some hx (Nat.le_of_eq hv)
  have hm : ∀ k,(List.filter (fun n=>((xs.zip vals).lookup n).isNone) (xs.take k)) = []:=fun k=>List.filter_eq_nil_iff.mpr fun x hx=>by rw [hn x (List.mem_of_mem_take hx)]; decide
  have hfm : xs.filterMap (fun n=>((xs.zip vals).lookup n).map (n,·)) = xs.zip vals:=filterMap_zip nd hv fun _ _=>rfl
  have hfi : ∀ (l : List (Str × Value)) (k : List (Str × Value) → Sem (List (Str × Value))),(∀ p ∈ l,p.1 ∈ xs) → wpAny M A (k (xs.zip vals)) Q E s → wpAny M A (forIn l (xs.zip vals) (fun x __s=>if (__s.lookup x.1).isNone = true then pure (ForInStep.yield (__s ++ [(x.1,x.2)])) else pure (ForInStep.yield __s)) >>= k) Q E s:=by
    intro l k
    induction l with
    | nil=>intro _ hk; rw [List.forIn_nil]; exact wpAny_bind (wpAny_pure hk)
    | cons p r ih =>
      intro hp hk
      rw [List.forIn_cons,hn _ (hp p (.head _))]
      simp only [Bool.false_eq_true,if_false,pure_bind]
      exact ih (fun q hq=>hp q (.tail _ hq)) hk
  rw [if_neg (by simp only [decide_eq_true_eq]; omega),hm]
  simp only [List.isEmpty_nil,Bool.not_true,Bool.false_eq_true,if_false]
  refine hfi _ _ (fun p hp=>?_) ?_
  · exact List.mem_of_mem_drop (List.of_mem_zip hp).1
  · rw [hfm]
    exact wpAny_pure h
theorem bindArgs_one (P : PlainArgs fd.params) {d : Value} (D : DfIs s fd.defaults [d]) (hv : (fd.params.args.map (·.arg)).length = vals.length + 1) : BindsTo s fd ⟨vals,[]⟩ ((fd.params.args.map (·.arg)).zip (vals ++ [d])):=by
  intro M A E Q h
  unfold bindArgs
  simp only [P.pos,P.kwo,P.var,P.kw,List.map_nil,List.nil_append,List.append_nil,List.forIn_nil,pure_bind,Option.isNone_none,Bool.and_true]
  refine wpAny_bind (D _ _ _ _ fun o ho=>?_)
  generalize hxs : fd.params.args.map (fun x : Arg=>x.arg) = xs at *
  have nd : xs.Nodup:=hxs ▸ P.nd
  obtain ⟨ys,x,rfl⟩ : ∃ ys x,xs = ys ++ [x]:=by
    have hne : xs ≠ []:=fun q=>by rw [q] at hv; simp at hv
    exact ⟨xs.dropLast,xs.getLast hne,(List.dropLast_concat_getLast hne).symm⟩
  have hl : ys.length = vals.length:=by simpa using hv
  rw [List.nodup_append] at nd
  have hx : x ∉ ys:=fun q=>nd.2.2 x q x (.head _) rfl
  have hz : (ys ++ [x]).zip vals = ys.zip vals:=by
    have:=List.zip_append (l₁:=ys) (r₁:=[x]) (l₂:=vals) (r₂:=([] : List Value)) hl
    simpa using this
  have hn : ∀ y ∈ ys,((ys.zip vals).lookup y).isNone = false:=fun y hy=>lookup_zip_some hy (Nat.le_of_eq hl)
  have hfm : (ys ++ [x]).filterMap (fun n=>((ys.zip vals ++ [(x,d)]).lookup n).map (n,·)) = (ys ++ [x]).zip (vals ++ [d]):=by
    rw [← hz,zip_snoc hl]
    exact filterMap_zip (by rw [List.nodup_append]; exact nd) (by simp [hl]) fun _ _=>rfl
  rw [if_neg (by simp only [decide_eq_true_eq,List.length_append,List.length_singleton]; omega),ho,hz]
  have e1 : [d].drop ([d].length - (ys ++ [x]).length) = [d]:=by
    rw [show [d].length - (ys ++ [x]).length = 0 by simp]; rfl
  rw [e1]
  have e2 : (ys ++ [x]).length - [d].length = ys.length:=by simp
  rw [e2,List.take_left' rfl,List.drop_left' rfl]
  have hm : (List.filter (fun n=>((ys.zip vals).lookup n).isNone) ys) = []:=List.filter_eq_nil_iff.mpr fun y hy=>by rw [hn y hy]; decide
  rw [hm]
  simp only [List.isEmpty_nil,Bool.not_true,Bool.false_eq_true,if_false,List.zip_cons_cons,List.zip_nil_right,List.forIn_cons,List.forIn_nil,lookup_zip_none hx,Option.isNone_none,if_true,pure_bind]
  rw [hfm]
  exact wpAny_pure h
end
structure DefOk (ps : Arguments) (sc : Scope) : Prop where
  args : PlainArgs ps
  kind : sc.kind = .function
  co : sc.isCoroutine = false
  gen : sc.isGenerator = false
  nd : (sc.names.map (·.1)).Nodup
  bound : ∀ x ∈ ps.args.map (·.arg),lk x sc.names = some .local ∨ lk x sc.names = some .cell
  free : ∀ p ∈ sc.names,p.2 ≠ .free
noncomputable def FunIs (K : Frag) (a : Nat) (ps : Arguments) (body : List Stmt) (sc : Scope) (ds : List SV) : Prop :=
  ∃ name qual dV kV doc pm an cdv ct oc od osl,K.lookup a = some ⟨oc,od,.func (fnX name qual ps body sc [] dV kV doc pm an cdv ct),osl⟩ ∧ codeIn K cdv qual = true ∧
    ((ds = [] ∧ dV = .none) ∨ ∃ T o xs n v d,dV = .ref T ∧ K.lookup T = some o ∧ o.data = .seq xs n ∧ xs.toList = [v] ∧ ds = [d] ∧ RelV ⟨[],[]⟩ d v)
structure KOk3 (G : Cx) : Prop extends KOk G where
  defs : ∀ a name ps body d1 d2 d3 sc d4 d5 d6 ds,fnAt a = some (.FunctionDef name ps body d1 d2 d3 sc d4 d5 d6,ds) → DefOk ps sc ∧ FunIs G.K a ps body sc ds
noncomputable def BindR (ds : List SV) (xs : List Str) (args : List SV) (ρ : Rho) : Prop:=∃ as,ρ = xs.zip as ∧ xs.length = as.length ∧ (as = args ∨ ∃ d,ds = [d] ∧ as = args ++ [d])
theorem bindA_s {ds : List SV} (hd : ds.length ≤ 1) (xs : List Str) : ∀ args,Sat (bindA ds xs args) (BindR ds xs args):=by
  induction xs with
  | nil=>exact fun args=>.l0 (P:=fun args=>BindR ds [] args) (.yes ⟨[],rfl,rfl,.inl rfl⟩)
  | cons x xs ih =>
    refine fun args=>.lr (P:=fun args=>BindR ds (x :: xs) args) (.gle fun h=>.oo fun v hv=>.om fun ρ e=>?_) fun v vs=>.om fun ρ e=>?_
    · rw [K.len_eq,K.len_eq] at h
      rw [K.len_eq,K.len_eq,nth_eq] at hv
      obtain ⟨as,rfl,hl,_⟩:=ih [] e
      have h0 : xs = []:=List.eq_nil_of_length_eq_zero (Nat.le_zero.mp (Nat.le_of_succ_le_succ (Nat.le_trans h hd)))
      subst h0
      cases ds with
      | nil=>exact nS hv
      | cons d r =>
        cases r with
        | cons _ _=>exact absurd hd (by intro q; exact Nat.not_succ_le_zero _ (Nat.le_of_succ_le_succ q))
        | nil =>
          obtain rfl : d = v:=Option.some.inj hv
          exact ⟨[d],rfl,rfl,.inr ⟨d,rfl,rfl⟩⟩
    · obtain ⟨as,rfl,hl,h⟩:=ih vs e
      exact ⟨v :: as,rfl,congrArg (· + 1) hl,h.imp (congrArg (v :: ·)) fun h=>h.imp fun d h=>h.imp id (congrArg (v :: ·))⟩
section
variable {kindOf : Str → Option NameKind} {x : Str} {v : Value} {b : List (Str × Value)}
theorem bindL_other : ∀ {m : Str → Option Value},x ∉ b.map (·.1) → bindL kindOf b m x = m x:=by
  induction b with
  | nil=>exact fun _=>rfl
  | cons p r ih =>
    intro m h
    rw [List.map_cons,List.mem_cons,not_or] at h
    unfold bindL
    rw [ih h.2]
    split
    · exact if_neg h.1
    · rfl
theorem bindC_other : ∀ {m : Str → Option Value},x ∉ b.map (·.1) → bindC kindOf b m x = m x:=by
  induction b with
  | nil=>exact fun _=>rfl
  | cons p r ih =>
    intro m h
    rw [List.map_cons,List.mem_cons,not_or] at h
    unfold bindC
    rw [ih h.2]
    split
    · rfl
    · exact if_neg h.1
theorem bind_at : ∀ {m m' : Str → Option Value},(b.map (·.1)).Nodup → (x,v) ∈ b → (kindOf x = some .local → bindL kindOf b m x = some v) ∧ (kindOf x ≠ some .local → bindC kindOf b m' x = some v):=by
  induction b with
  | nil=>exact fun _ h=>absurd h List.not_mem_nil
  | cons p r ih =>
    intro m m' nd h
    rw [List.map_cons,List.nodup_cons] at nd
    unfold bindL bindC
    rcases List.mem_cons.mp h with e | h
    · subst e
      rw [bindL_other nd.1,bindC_other nd.1]
      exact ⟨fun hk=>by rw [if_pos hk]; exact if_pos rfl,fun hk=>by rw [if_neg hk]; exact if_pos rfl⟩
    · exact ih nd.2 h
end
theorem zip_fst {xs : List Str} {α : Type} {vs : List α} (h : xs.length = vs.length) : (xs.zip vs).map (·.1) = xs:=List.map_fst_zip (Nat.le_of_eq h)
theorem lk_zip {k : Kn} {x : Str} {sv : SV} {xs : List Str} : ∀ {args : List SV} {vals : List Value},RelVs k args vals → lk x (xs.zip args) = some sv → ∃ v,(x,v) ∈ xs.zip vals ∧ RelV k sv v:=by
  induction xs with
  | nil=>exact fun _ e=>nS e
  | cons y xs ih =>
    intro args vals r e
    cases args with
    | nil=>exact nS e
    | cons a args =>
      refine r.el (P:=fun vals=>∃ v,(x,v) ∈ (y :: xs).zip vals ∧ RelV k sv v) fun v vals rv rr=>?_
      rw [List.zip_cons_cons,lk_cons] at e
      by_cases q : y = x
      · rw [if_pos q] at e
        exact ⟨v,q ▸ .head _,Option.some.inj e ▸ rv⟩
      · rw [if_neg q] at e
        exact (ih rr e).imp fun w h=>h.imp_left (.tail _)
theorem lookup_cell {x : Str} {names : List (Str × NameKind)} : ∀ {n : Nat} {acc : List (Str × Addr)},names.lookup x = some .cell ∨ (acc.lookup x).isSome = true → ((cellsFrom n names acc).lookup x).isSome = true:=by
  induction names with
  | nil=>exact fun h=>h.elim (fun h=>nS h) id
  | cons p r ih =>
    obtain ⟨y,k⟩:=p
    intro n acc h
    unfold cellsFrom
    rw [List.lookup_cons] at h
    have acc' : ∀ {c},(acc.lookup x).isSome = true ∨ (x == y) = true → (((y,c) :: acc).lookup x).isSome = true:=fun {c} h=>by
      rw [List.lookup_cons]
      cases q : x == y with
      | true=>rfl
      | false=>exact h.resolve_right fun z=>nT (q.symm.trans z)
    cases q : x == y with
    | true =>
      rw [q] at h
      split
      · exact ih (.inr (acc' (.inr q)))
      · rename_i hk
        exact h.elim (fun h=>absurd (by rw [Option.some.inj h]; rfl) hk) fun h=>ih (.inr h)
    | false =>
      rw [q] at h
      split
      · exact ih (h.imp id fun h=>acc' (.inl h))
      · exact ih h
theorem cells_nodup {names : List (Str × NameKind)} : ∀ {n : Nat} {acc : List (Str × Addr)},(names.map (·.1)).Nodup → (acc.map (·.1)).Nodup → (∀ x ∈ names.map (·.1),x ∉ acc.map (·.1)) → ((cellsFrom n names acc).map (·.1)).Nodup:=by
  induction names with
  | nil=>exact fun _ h _=>h
  | cons p r ih =>
    obtain ⟨y,k⟩:=p
    intro n acc nd h k'
    rw [List.map_cons,List.nodup_cons] at nd
    unfold cellsFrom
    split
    · refine ih nd.2 (List.nodup_cons.mpr ⟨k' y (.head _),h⟩) fun x hx=>?_
      rw [List.map_cons,List.mem_cons,not_or]
      exact ⟨fun q=>nd.1 (q ▸ hx),k' x (.tail _ hx)⟩
    · exact ih nd.2 h fun x hx=>k' x (.tail _ hx)
noncomputable abbrev envD (sc : Scope) (size : Nat) (qual : Str) (a : Nat) (cdv : Value) : Env:=newEnv sc size mainGlobals (cellsFrom (size + 1) sc.names []) (qual ++ ".<locals>.") (some a) cdv none builtinsNs
noncomputable abbrev Ct.deep (c : Ct) (g : Heap) (env : Env) : Ct:={ c with A:=c.A.deeper env,h₀:=g,outer:=env :: c.outer,L:=env.locals }
section
variable {G : Cx} {n : Nat} {c : Ct} {W : Wd} {σ : Sto} {s : Shared} {a : Nat} {ps : Arguments} {body : List Stmt} {sc : Scope} {ds : List SV} {args : List SV} {vals : List Value} {ρ : Rho} {C : Result → Shared → Prop} {g h h₁ : Heap}
structure Gr (G : Cx) (c : Ct) (g : Heap) (W : Wd) (σ : Sto) (h : Heap) : Prop where
  B : Below c.A c.base c.outer g
  fro : ∀ e ∈ c.outer,∀ L',e.frame = some L' → (g.get? L').isSome = true
  keep : ∀ b o,g.get? b = some o → h.get? b = some o
  size : g.objs.size = h.objs.size
  N : ∀ p ∈ c.all W,h.get? p.1 = some p.2 ∧ g.get? p.1 = none
  X : G.K.In g
  T : TopRead G.p G.loose G.mg G.mb g
  lo : ∀ p ∈ W.led,(p.1 == sysModules) = false
  AC : ∀ p ∈ c.cells,∀ q ∈ W.led,p.1 ≠ q.1
  kept : ∀ p ∈ G.kept,p ∈ c.cells
  S : Sim G.V W σ
theorem Fy.gr (Y : Fy G c W σ h) : Gr G c (groundOf h (c.all W)) W σ h:=by
  have g:=Y.ground
  refine ⟨Y.Z.B _ _ g,fun e he L' hL'=>?_,fun b o e=>of_hideAll _ e,hideAll_size _ _,fun p hp=>⟨(Y.N p hp).1,hideAll_none _ (List.mem_map_of_mem hp)⟩,Y.Z.X.keeps g.keep,Y.Z.T.keeps g.keep,Y.lo,Y.AC,Y.Z.kept,Y.S⟩
  rcases Y.Z.fro e he L' hL' with rfl | q
  · obtain ⟨o,_,_,ho,_⟩:=g.ns
    rw [ho]; rfl
  · obtain ⟨o,ho⟩:=Option.isSome_iff_exists.mp q
    rw [g.keep _ _ ho]; rfl
inductive BoundR (k : Kn) (s : Shared) (fd : FuncData) (vals : List Value) (xs : List Str) (ρ : Rho) : Prop
  | mk (vs : List Value) (as : List SV) (hb : BindsTo s fd ⟨vals,[]⟩ (xs.zip vs)) (hρ : ρ = xs.zip as) (hl : xs.length = vs.length) (r : RelVs k as vs)
theorem bound_of {Fg : Frag} {fd : FuncData} (X : Fg.In s.heap) (P : PlainArgs fd.params) (hds : (ds = [] ∧ fd.defaults = .none) ∨ ∃ T o xs n v d,fd.defaults = .ref T ∧ Fg.lookup T = some o ∧ o.data = .seq xs n ∧ xs.toList = [v] ∧ ds = [d] ∧ RelV ⟨[],[]⟩ d v) (r : RelVs W.kn args vals) (hb : bindA ds (K.lmap (·.arg) fd.params.args) args = some ρ) :
    BoundR W.kn s fd vals (fd.params.args.map (·.arg)) ρ:=by
  rw [K.lmap_eq] at hb
  have hrl : vals.length = args.length:=All2.length r
  have hD : ds.length ≤ 1 ∧ ∃ l,DfIs s fd.defaults l ∧ (∀ d,ds = [d] → ∃ v,l = [v] ∧ RelV ⟨[],[]⟩ d v):=by
    rcases hds with ⟨rfl,e⟩ | ⟨T,o,xs,nn,v,d,e,hT,hd,hx,rfl,rd⟩
    · exact ⟨Nat.zero_le _,[],e ▸ dfIs_none,fun d e=>nomatch e⟩
    · exact ⟨Nat.le_refl _,xs.toList,e ▸ dfIs_tuple (X _ _ hT) hd,fun d' e=>⟨v,hx,(List.cons.inj e).1 ▸ rd⟩⟩
  obtain ⟨hdl,l,hl,hl'⟩:=hD
  obtain ⟨as,hρ,hlen,h⟩:=bindA_s hdl _ args hb
  rcases h with rfl | ⟨d,h2,rfl⟩
  · exact ⟨vals,as,bindArgs_all P hl (hlen.trans hrl.symm),hρ,hlen.trans hrl.symm,r⟩
  · obtain ⟨v,rfl,rd⟩:=hl' d h2
    have hlen' : (fd.params.args.map (·.arg)).length = vals.length + 1:=by rw [hlen,List.length_append,hrl]; rfl
    exact ⟨vals ++ [v],args ++ [d],bindArgs_one P hl hlen',hρ,by rw [hlen',List.length_append]; rfl,All2.app (.one rd.nil) r⟩
theorem bound_vars {k : Kn} {size : Nat} {qual : Str} {cdv : Value} {vs : List Value} {as : List SV} (D : DefOk ps sc) (hl : (ps.args.map (·.arg)).length = vs.length) (r : RelVs k as vs) :
    VarOk sc k ((ps.args.map (·.arg)).zip as) (bindL (envD sc size qual a cdv).kindOf ((ps.args.map (·.arg)).zip vs) fun _=>none) (bindC (envD sc size qual a cdv).kindOf ((ps.args.map (·.arg)).zip vs) fun _=>none) (envD sc size qual a cdv).cells:=fun y sv e=>by
  obtain ⟨v,h1,h2⟩:=lk_zip r e
  have b:=bind_at (m:=fun _=>none) (m':=fun _=>none) (kindOf:=(envD sc size qual a cdv).kindOf) (by rw [zip_fst hl]; exact D.args.nd) h1
  refine ⟨fun hl=>⟨v,b.1 (by rw [lk_eq] at hl; exact hl),h2⟩,fun hl=>?_⟩
  have hc : sc.names.lookup y = some .cell:=by
    rw [lk_eq] at hl
    exact hl.resolve_right fun hl=>D.free (y,.free) (mem_of_lookup hl) rfl
  exact ⟨v,b.2 (fun q=>(nomatch (hc.symm.trans q))),lookup_cell (.inl hc),h2⟩
theorem enter_grE (D : DefOk ps sc) (I : FunIs G.K a ps body sc ds) (hA : Room (n + 1) c.A) (Y : Gr G c g W σ s.heap) (r : RelVs W.kn args vals) (hb : bindA ds (K.lmap (·.arg) ps.args) args = some ρ)
    (k : ∀ env m cm cs h₁ tk,Room n (c.A.deeper env) → Fs G (c.deep g env) env sc m cm cs c.cells W ρ σ h₁ →
      ∀ E,(∀ e s',wpAny G.M (c.A.deeper env) (leaving env e) (fun _ s''=>C (.error e) s'') (fun e' s''=>C (.error e') s'') s' → E e s') → env.frame = some env.locals → wpAny G.M (c.A.deeper env) (execs body env) (fun fl s'=>C (.ok (.ret (match fl with | .ret v=>v | _=>.none))) s') E { s with heap:=h₁,toks:=tk }) :
    codeAny G.M c.A (.call (.ref a) ⟨vals,[]⟩) C s:=by
  obtain ⟨name,qual,dV,kV,doc,pm,an,cdv,ct,oc,od,osl,ho,hcd,hds⟩:=I
  have X:=Y.X.keeps Y.keep
  obtain ⟨vs,as,hbind,rfl,hlen,rv⟩:=bound_of (fd:=fnX name qual ps body sc [] dV kV doc pm an cdv ct) X D.args hds r hb
  have hlen : (ps.args.map (·.arg)).length = vs.length:=hlen
  have hkind : ∀ nn,∀ x ∈ (ps.args.map (·.arg)).zip vs,sc.names.lookup x.1 = some .local ∨ (sc.names.lookup x.1 = some .cell ∧ ((cellsFrom nn sc.names []).lookup x.1).isSome = true):=fun nn x hx=>by
    have hm : x.1 ∈ ps.args.map (·.arg):=by rw [← zip_fst hlen]; exact List.mem_map_of_mem hx
    have h:=D.bound _ hm
    rw [lk_eq] at h
    exact h.imp id fun h=>⟨h,lookup_cell (.inl h)⟩
  refine codeAny_call_function (fd:=fnX name qual ps body sc [] dV kV doc pm an cdv ct) (body:=body) (Nat.lt_of_le_of_lt (Nat.le_trans (Nat.le_add_right _ _) hA.2.1) (by decide)) (X _ _ ho) rfl D.co D.gen rfl (codeRec_of X hcd) (hbind _ _ _ _ ?_)
  refine wpAny_newFunctionEnv_cells D.kind (hkind _) fun env' he s' x=>?_
  subst he
  refine ⟨(Y.T.nolimit.keeps Y.keep).keeps x.toInCall.keep,codeAny_func ?_⟩
  obtain ⟨h₁,tk,rfl,_⟩:=x.done
  have hk₁:=x.toInCall.keep
  have hnd:=cells_nodup (n:=s.heap.objs.size + 1) (acc:=[]) D.nd List.nodup_nil fun _ _=>List.not_mem_nil
  obtain ⟨cs,NC,CA⟩:=Cl.news (h₀:=s.heap) (Nat.le_refl _) fun nn c hm=>⟨x.cell nn c (lookup_of_mem_nodup hnd hm),x.above nn c hm⟩
  have hcs : ∀ p ∈ cs,s.heap.get? p.1 = none:=fun p hp=>(NC p hp).2.2
  have apart : ∀ p ∈ cs,∀ q ∈ c.all W,p.1 ≠ q.1:=fun p hp q hq e=>nS ((hcs p hp).symm.trans (e ▸ (Y.N q hq).1))
  have XF : Fs G (c.deep g (envD sc s.heap.objs.size qual a cdv)) (envD sc s.heap.objs.size qual a cdv) sc (bindL (envD sc s.heap.objs.size qual a cdv).kindOf ((ps.args.map (·.arg)).zip vs) fun _=>none) (bindC (envD sc s.heap.objs.size qual a cdv).kindOf ((ps.args.map (·.arg)).zip vs) fun _=>none) cs c.cells W ((ps.args.map (·.arg)).zip as) σ h₁:=by
    refine ⟨⟨⟨⟨fun h' m' F'=>pushX Y.B F' rfl D.kind,fun e he L' hL'=>?_,Y.X,Y.T,fun p hp=>List.mem_append_right _ (Y.kept p hp)⟩,⟨x.toInCall.ns,fun b o e=>hk₁ b o (Y.keep b o e),Nat.le_of_eq Y.size⟩,fun p hp=>?_,Y.lo,fun p hp q hq=>?_,Y.S⟩,rfl,⟨D.kind,rfl,rfl,fun y ky e=>?_,fun y e=>?_⟩,⟨cs,CA,fun p hp=>List.mem_append_left _ hp⟩,bound_vars D hlen rv⟩,CA,hnd,?_,fun p hp q hq=>apart p hp q (mem3.mpr (.inl hq)),Y.kept,fun y e=>?_⟩
    · rcases List.mem_cons.mp he with rfl | he
      · exact .inl (Option.some.inj hL').symm
      · exact .inr (Y.fro e he L' hL')
    · have old : ∀ p ∈ c.all W,h₁.get? p.1 = some p.2 ∧ p.1 ≠ s.heap.objs.size ∧ g.get? p.1 = none:=fun p hp=>⟨hk₁ _ _ (Y.N p hp).1,Nat.ne_of_lt (Heap.lt_size (Y.N p hp).1),(Y.N p hp).2⟩
      rcases mem3.mp hp with hp | hp | hp
      · rcases List.mem_append.mp hp with hp | hp
        · refine ⟨(NC p hp).1,(NC p hp).2.1,?_⟩
          cases q : g.get? p.1 with
          | none=>rfl
          | some o=>exact nS ((hcs p hp).symm.trans (Y.keep _ _ q))
        · exact old p (mem3.mpr (.inl hp))
      · exact old p (mem3.mpr (.inr (.inl hp)))
      · exact old p (mem3.mpr (.inr (.inr hp)))
    · exact (List.mem_append.mp hp).elim (fun hp=>apart p hp q (mem3.mpr (.inr (.inl hq)))) fun hp=>Y.AC p hp q hq
    · rw [lk_eq] at e
      refine (show sc.names.lookup y = some ky from e).trans (congrArg some ?_)
      have nf:=D.free (y,ky) (mem_of_lookup e)
      induction ky <;> first | rfl | exact absurd rfl nf
    · rw [lk_eq] at e
      exact lookup_cell (.inl (e.resolve_right fun e=>D.free (y,.free) (mem_of_lookup e) rfl))
    · rw [cellsAre_addrs CA]
      exact List.pairwise_map.mpr x.apart
    · rw [lk_eq] at e
      exact lookup_cell (.inl e)
  exact k _ _ _ cs h₁ tk ⟨hA.1,by show c.A.depth + 1 + n ≤ 600; rw [Nat.add_assoc,Nat.add_comm 1 n]; exact hA.2.1,by show c.A.units + 3 + 20 * n ≤ 9000; have:=hA.2.2; omega⟩ XF _ (fun _ _ z=>z) rfl
theorem enter_def (D : DefOk ps sc) (I : FunIs G.K a ps body sc ds) (hA : Room (n + 1) c.A) (Y : Fy G c W σ s.heap) (r : RelVs W.kn args vals) (hb : bindA ds (K.lmap (·.arg) ps.args) args = some ρ)
    (k : ∀ env g m cm cs h₁ tk,Room n (c.A.deeper env) → Fr c.h₀ c.L g c.m → Fs G (c.deep g env) env sc m cm cs c.cells W ρ σ h₁ → ∀ E,wpAny G.M (c.A.deeper env) (execs body env) (fun fl s'=>C (.ok (.ret (match fl with | .ret v=>v | _=>.none))) s') E { s with heap:=h₁,toks:=tk }) :
    codeAny G.M c.A (.call (.ref a) ⟨vals,[]⟩) C s:=enter_grE D I hA Y.gr r hb fun env m cm cs h₁ tk hA' X E _ _=>k env _ m cm cs h₁ tk hA' Y.ground X E
end
section
variable {G : Cx} {n : Nat} {T : Tab} {R : Rec} {a : Nat} {c : Ct} {env : Env} {W W' : Wd} {σ σ' : Sto} {h' : Heap} {sc : Scope} {ρ ρ' ρ₁ : Rho} {σ₁ : Sto} {out : Out}
theorem gc_s {k : Nat} {v : SV} {w : Value} (hk : k = σ.length) (Y₀ : W.led.length = σ.length) (Y : Fy G c W' σ' h') (r : RelV W'.kn v w) (mo : More W W') : Sat (gc k v σ') fun q=>∃ W₃,Fy G c W₃ q.2 h' ∧ RelV W₃.kn q.1 w ∧ More W W₃:=by
  have nd : (gcπ k v σ').Nodup:=rv_nodup (dfs_nodup 400 (rv_nodup List.nodup_range))
  obtain ⟨u,hu⟩ : ∃ u,gcπ k v σ' = List.range k ++ u:=(dfs_pre 400 _ _).elim fun u e=>⟨u.reverse,by unfold gcπ; rw [e,K.rv_eq,K.rv_eq,List.reverse_append,List.reverse_reverse]⟩
  refine .oo fun v' e1=>.om fun s e2=>?_
  generalize gcπ k v σ' = π at nd hu e1 e2
  obtain ⟨L,pk,rel⟩:=pickZ_s (V:=G.V) Y.S.rel π 0 e2
  have ha:=pk.at
  refine ⟨⟨L,W'.tps⟩,⟨Y.Z,Y.F,fun p hp=>Y.N p (mem3.mpr ((mem3.mp hp).imp id fun h=>h.imp (pk.mem p) id)),fun p hp=>Y.lo p (pk.mem p hp),fun p hp q hq=>Y.AC p hp q (pk.mem q hq),⟨rel (g:=G.V.obj) (ren_pos ha) (fun _=>rfl) fun h=>nT h,atAll_nodup Y.S.nodup ha nd,Y.S.tup⟩⟩,mapV_s (ren_pos ha) v e1 r,mo.tps,fun i a hi=>?_⟩
  have hi' : (W.led.map (·.1))[i]? = some a:=hi
  have lt : i < k:=by
    have:=(List.getElem?_eq_some_iff.mp hi').1
    rw [List.length_map,Y₀,← hk] at this
    exact this
  have hπ : π[i]? = some i:=by rw [hu,List.getElem?_append_left (by rw [List.length_range]; exact lt),List.getElem?_range lt]
  obtain ⟨b,hb,e⟩:=ha.get hπ
  exact hb.trans (e.symm.trans (mo.ad i a hi))
theorem out_val {k : Kn} {o : Out} {fl : Flow} {v : SV} (hv : outV o = some v) (fr : FlowRel k o fl) : RelV k v (match (generalizing:=false) fl with | .ret v=>v | _=>.none):=by
  induction o with
  | next=>cases (show fl = .next from fr); cases (show some (SV.d .none) = some v from hv); exact relV_none
  | ret x=>obtain ⟨w,rfl,r⟩:=fr; cases (show some x = some v from hv); exact r
  | _=>exact nS hv
theorem Sat.sDef {γ : Type} {s : Stmt} {f : Arguments → List Stmt → Scope → Option γ} {P : γ → Prop} (k : ∀ name ps body d1 d2 d3 sc d4 d5 d6,s = .FunctionDef name ps body d1 d2 d3 sc d4 d5 d6 → Sat (f ps body sc) P) : Sat (sDef s f) P:=by
  cases s <;> first | exact .no | exact k _ _ _ _ _ _ _ _ _ _ rfl
theorem FnT.bodyL {ps : Arguments} {body : List Stmt} {ds args : List SV} {o : Out} {v : SV} (D : DefOk ps sc) (I : FunIs G.K a ps body sc ds) (hb : bindA ds (K.lmap (·.arg) ps.args) args = some ρ) (hx : ExT G n sc body ρ σ o ρ' σ') (hv : outV o = some v) : FnT G (n + 1) a args σ v σ':=fun c W C s vals hA Y r k =>
  enter_def D I hA Y r hb fun env g m cm cs h₁ tk hA' FG XF E=>hx (c:=c.deep g env) hA' XF fun m₂ cm₂ cs₂ h₂ tk₂ W₂ fl XF₂ mo fr=>k (Fy.leave Y.Z FG XF₂.Y rfl fun p hp=>List.mem_append_right _ hp) (out_val hv fr) mo
theorem FnT.gcd {args : List SV} {v : SV} (h : FnT G n a args σ v σ') : Sat (gc (K.len σ) v σ') (U2 (FnT G n a args σ)):=fun q e c W C s vals hA Y r k=>h hA Y r fun w h₂ tk W₂ Y₂ rw mo=>by
  obtain ⟨W₃,Y₃,r₃,mo₃⟩:=gc_s (K.len_eq σ) Y.S.rel.length Y₂ rw mo e
  exact k Y₃ r₃ mo₃
theorem bodyL_s (ko : KOk3 G) (xk : ExOk G n R.ex) : FnOk G (n + 1) a (bodyL R a):=fun args σ=>.ob fun s ds hf=>.sDef fun name ps body d1 d2 d3 sc d4 d5 d6 hs=>.oo fun ρ hb=>.o3 (xk sc body ρ σ) fun o ρ' σ' hx=>.om fun v hv=>by
  subst hs
  obtain ⟨D,I⟩:=ko.defs _ _ _ _ _ _ _ _ _ _ _ _ hf
  exact FnT.bodyL D I hb hx hv
theorem callStep_s (ko : KOk3 G) (xk : ExOk G n R.ex) (tn : TabAt G n T) : FnOk G (n + 1) a (callStep T R a):=fun args σ=>.gd fun _=>by
  cases e : T.call a with
  | none =>
    cases hl : T.lite with
    | true=>exact bodyL_s ko xk args σ
    | false=>exact loc_s false (fun g h0=>by cases h0 rfl; exact fun args σ=>.bS (bodyL_s ko xk args σ) fun v σ' h=>FnT.gcd h) args σ
  | some q=>exact (loc_s q.1 fun g h0=>(tn.call a q e g h0).le (Nat.le_succ n)) args σ
theorem callStep_dom {args : List SV} {σ : Sto} {r : SV × Sto} (e : callStep T R a args σ = some r) : (fnAt a).isSome = true:=(gd_i e).1
theorem ExT.nil : ExT G n sc [] ρ σ .next ρ σ:=fun c env m cm cs rest W E Q s hA X k=>wpAny_execs_nil (k (tk:=s.toks) X (Kn.Le.refl _) rfl)
theorem ExT.next {st : Stmt} {r : List Stmt} (h : StT G n sc st ρ σ .next ρ₁ σ₁) (t : ExT G n sc r ρ₁ σ₁ out ρ' σ') : ExT G n sc (st :: r) ρ σ out ρ' σ':=fun c env m cm cs rest W E Q s hA X k=>wpAny_execs_cons (h hA X fun m₂ cm₂ cs₂ h₂ tk₂ W₂ fl X₂ mo fr=>by
  cases (show fl = .next from fr)
  exact t hA (s:={ s with heap:=h₂,toks:=tk₂ }) X₂ (k.tr mo))
theorem ExT.stop {st : Stmt} {r : List Stmt} (h : StT G n sc st ρ σ out ρ' σ') (hn : out ≠ .next) : ExT G n sc (st :: r) ρ σ out ρ' σ':=fun c env m cm cs rest W E Q s hA X k=>wpAny_execs_cons (h hA X fun m₂ cm₂ cs₂ h₂ tk₂ W₂ fl X₂ mo fr=>by
  have z:=k (tk:=tk₂) X₂ mo fr
  cases out with
  | next=>exact absurd rfl hn
  | brk=>cases (show fl = .brk from fr); exact z
  | cont=>cases (show fl = .cont from fr); exact z
  | ret v=>obtain ⟨w,rfl,_⟩:=fr; exact z)
theorem exH_s (ko : KOk3 G) (ro : RecOk G n R) (tn : TabAt G n T) (st : Stmt) : Sat (exH T R sc st ρ σ) (U3 (StT G n sc st ρ σ)):=by
  unfold exH
  cases hl : T.loop st.pos.line st.pos.col with
  | none=>exact exS_s ko.toKOk ro.ev ro.cm ro.tst ro.ex st
  | some q =>
    refine .gd fun h1=>.gd fun h2=>(tn.loop _ _ q hl ρ σ).mono fun r h=>?_
    rw [← sameSc_eq _ _ h1,← eqStm_eq 30 _ _ h2] at h
    exact h
theorem exStep_s (ko : KOk3 G) (ro : RecOk G n R) (tn : TabAt G n T) : ExOk G n (exStep T R):=fun sc l ρ σ=>by
  cases l with
  | nil=>exact .yes ExT.nil
  | cons st r =>
    show Sat (o3 (exH T R sc st ρ σ) fun o ρ σ=>@Out.casesOn (fun _=>StA) o (R.ex sc r ρ σ) (some (.brk,ρ,σ)) (some (.cont,ρ,σ)) fun v=>some (.ret v,ρ,σ)) _
    refine .o3 (exH_s ko ro tn st) fun o ρ₁ σ₁ h=>?_
    cases o with
    | next=>exact (ro.ex sc r ρ₁ σ₁).mono fun q t=>ExT.next h t
    | brk=>exact .yes (ExT.stop h (fun e=>nomatch e))
    | cont=>exact .yes (ExT.stop h (fun e=>nomatch e))
    | ret v=>exact .yes (ExT.stop h (fun e=>nomatch e))
theorem RecOk.zero : RecOk G 0 (runF 0 T):=⟨fun _ _ _ _=>.no,fun _ _ _ _ _ _ _=>.no,fun _ _ _ _=>.no,fun _ _ _ _=>.no,fun _ _ _=>.no,fun e=>nS e⟩
end
theorem run_ok {G : Cx} (ko : KOk3 G) (n : Nat) : ∀ T : Tab,TabOk G T → RecOk G n (runF n T):=by
  induction n with
  | zero=>exact fun T _=>.zero
  | succ n ih =>
    intro T h
    obtain ⟨h1,h2⟩:=h.at n
    have ro:=ih T h
    have ro':=ih (T.at n) h1
    have com:=fun (sc : Scope) (ρ : Rho) (σ : Sto) (elt : Expr) (gs : List Comprehension) (sc' : Scope) (pos : Pos)=>aComp_s (sc:=sc) (ρ:=ρ) (σ:=σ) ko.toKOk ih h1 h2 elt gs sc' pos
    refine ⟨fun sc e ρ σ=>evStep_s h1.facts ko.toKOk ro'.ev.up ro'.tst.up ro'.call ro'.dom (fun elt gs sc' pos=>(com sc ρ σ elt gs sc' pos).mono fun r q=>q.1.up) e,fun sc elt gs sc' pos ρ σ=>(com sc ρ σ elt gs sc' pos).mono fun r q=>q.2.le (Nat.le_succ n),fun sc e ρ σ=>tstStep_s h.facts ro.ev.up ro.tst.up e,fun sc l ρ σ=>(exStep_s ko ro h2 sc l ρ σ).mono fun r q=>ExT.le q (Nat.le_succ n),fun a=>callStep_s ko ro.ex h2,callStep_dom⟩
noncomputable def picks : List Nat:=[3,2,1,275,274,304,303,503,502,51,50,31,30,0,21,20,63,62,70,69,77,76,84,83,91,90,98,97,105,104,112,111,119,118,126,125,133,132,140,139,147,146,154,153,161,160,168,167,175,174,182,181,189,188,196,195,203,202,208,207,216,215,211,209,223,222,230,229,237,236,244,243,251,250,258,257,315,314,322,321,329,328,336,335,343,342,349,348,344,356,355,363,362,370,369,377,376,384,383,391,390,398,397,405,404,412,411,417,416,422,421,427,426,434,433,439,438,446,445,514,513,521,520,528,527,533,532,539,538,534,545,544,540,552,551,559,558,566,565,573,572,580,579,587,586,594,593,601,600,608,607,615,614,622,621,629,628,636,635,643,642,648,647,655,654,660,659,667,666,672,671,677,676,682,681,689,688,694,693,701,700,708,707,715,714,722,721,729,728,736,735,743,742,750,749,757,756,764,763,771,770,778,777,783,782,790,789,796,795,791,803,802,810,809,815,814,822,821,829,828,836,835,844,843,839,837,851,850,858,857,863,862,868,867,873,872,878,877,885,884,890,889,897,896,904,903,911,910,916,915,923,922,930,929,935,934,942,941,949,948,956,955,961,960,966,965,971,970,976,975,981,980,48,47,272,271,294,293,289,287,460,459,467,466,474,473,481,480,488,487,495,494,500,499]
noncomputable def BT.keys {α : Type} : BT α → List Nat:=@BT.rec α (fun _=>List Nat) [] fun k _ _ _ l r=>k :: K.app l r
theorem BT.get_key {α : Type} (t : BT α) (x : Nat) : Sat (t.get x) fun _=>x ∈ t.keys:=by
  induction t with
  | nil=>exact .no
  | node k v l r ihl ihr=>exact .bI (fun h=>.yes (Nat.eq_of_beq_eq_true h ▸ .head _)) fun _=>.bI (fun _=>ihl.mono fun _ h=>.tail _ (K.app_eq l.keys r.keys ▸ List.mem_append_left _ h)) fun _=>ihr.mono fun _ h=>.tail _ (K.app_eq l.keys r.keys ▸ List.mem_append_right _ h)
noncomputable def treeT (P : Params) : PySem.W.BT:=ofL 12 (allObjs P (tsAt 153 P))
noncomputable def KF (P : Params) : Frag:=picks.map fun a=>(a,((treeT P).get a).getD default)
noncomputable def allL {α : Type} (f : α → Bool) : List α → Bool:=@List.rec α (fun _=>Bool) true fun a _ ih=>bA (f a) ih
theorem allL_i {α : Type} {f : α → Bool} {l : List α} (h : allL f l = true) : ∀ x ∈ l,f x = true:=by
  induction l with
  | nil=>exact zero
  | cons a l ih=>exact two (bA_i h).1 (ih (bA_i h).2)
noncomputable def optT {α : Type} (f : α → Bool) (o : Option α) : Bool:=@Option.rec α (fun _=>Bool) false f o
theorem optT_i {α : Type} {f : α → Bool} {o : Option α} (h : optT f o = true) : ∃ a,o = some a ∧ f a = true:=by
  cases o with
  | none=>exact nT h
  | some a=>exact ⟨a,rfl,h⟩
noncomputable section
def pickOk (P : Params) (a : Nat) : Bool:=bA (Nat.blt a (tsAt 153 P).n) (optT (fun o : Obj=>!o.isFreed) ((treeT P).get a))
def attrB (K : Frag) (c : Addr) (x : Str) : Bool:=bA (plainGet K c x) (bA (hasDictIn K c) (bA (optT (noGet K) (findIn K (.ref c) x)) (bA (findIn K (.ref c) "__setattr__" == some (some (.builtin "object.__setattr__"))) (bA (plainOver K c) (takerIn K c x == some none)))))
def threeC : List Nat:=[304,275,503]
def intB (i : Int) (v : Value) : Bool:=@Value.casesOn (fun _=>Bool) v false false false (fun _=>false) (fun j _=>decide (i = j)) (fun _ _=>false) (fun _ _=>false) (fun _ _=>false) (fun _=>false) (fun _=>false) fun _=>false
def relB (x : SV) (v : Value) : Bool:=@SV.casesOn (fun _=>Bool) x (fun d=>@D.casesOn (fun _=>Bool) d (v == .none) (fun b=>v == .bool b) (fun i=>intB i v) (fun _=>false) fun _=>false) (fun _=>false) (fun _=>false) (fun a=>v == .ref a) (fun n=>v == .type (tyName n)) fun b=>v == .builtin (biName b)
def globB (K : Frag) (p : Str × SV) : Bool:=optT (fun o=>@Option.rec Value (fun _=>Bool) (bA (!seq p.1 (Str.ofString "__name__")) (optT (relB p.2) (bootBuiltins p.1))) (relB p.2) o) (nsIn K mainGlobals p.1)
def isnB (K : Frag) (D C : Addr) : Bool :=
  bA (kin_not K D C) (bA (plainGet K D "__class__") (bA (hasDictIn K D) (bA (findIn K (.ref D) "__class__" == some (some (.builtin "object.__class__")))
  (bA (specialIn K (.builtin "object.__class__") "__get__" == some (some (.builtin "getset_descriptor.__get__"))) (bA (takesIn K (.builtin "object.__class__") == some true) (mroIn K D (.type "object") == some true))))))
def methB (K : Frag) (p : Str × Nat) : Bool:=bA (plainGet K 503 p.1) (bA (findIn K (.ref 503) p.1 == some (some (.ref p.2))) (isFn K (.ref p.2)))
def madeB (K : Frag) (a : Nat) : Bool:=optT (fun i=>bA (makesIn K a) (bA (findIn K (.ref a) "__init__" == some (some (.ref i))) (typeIn K (.ref i) == some (.type "function")))) (initAt a)
def notList (o : Obj) : Bool:=!(o.cls == .type "list")
theorem kf_ok (P : Params) : (allL (pickOk P) picks = true) ∧ (allL (fun c=>allL (attrB (KF P) c) (attrsOf c)) threeC = true) ∧ (allL (globB (KF P)) glT.toL = true) ∧ (bA (allL (fun c=>bA (isIn (KF P) (.ref c) c) (allL (fun c'=>bI (Nat.beq c' c) true (isnB (KF P) c' c)) threeC)) threeC) ((KF P).lookup sysModules).isSome = true) ∧ (allL (methB (KF P)) methT = true) ∧ (bA (allL (fun a=>keepIn (KF P) (.ref a)) fnT.keys) (allL (fun a=>keepIn (KF P) (.ref a)) threeC) = true) ∧ (allL (madeB (KF P)) threeC = true) ∧ (allL (fun a=>notList (((treeT P).get a).getD default)) picks = true) ∧ (nsIn (KF P) mainGlobals (Str.ofString "law") = some (some (.ref 981))):=⟨by kernel_rfl,by kernel_rfl,by kernel_rfl,by kernel_rfl,by kernel_rfl,by kernel_rfl,by kernel_rfl,by kernel_rfl,by kernel_rfl⟩
end
theorem intB_i {i : Int} {v : Value} (h : intB i v = true) : ∃ t,v = .int i t:=by
  cases v <;> first | exact nT h | exact of_decide_eq_true h ▸ ⟨_,rfl⟩
theorem relB_i {x : SV} {v : Value} (h : relB x v = true) : RelV ⟨[],[]⟩ x v:=by
  cases x with
  | d d=>cases d <;> first | exact beq_iff_eq.mp h | exact intB_i h | exact nT h
  | _=>first | exact beq_iff_eq.mp h | exact nT h
noncomputable def fdOf (o : Option Obj) : Option FuncData:=oo o fun o=>@Data.casesOn (fun _=>Option FuncData) o.data none (fun _=>none) (fun _ _=>none) (fun _ _=>none) (fun _ _ _=>none) (fun _ _=>none) (fun _=>none) some (fun _=>none) (fun _=>none) none
theorem fdOf_s (x : Option Obj) : Sat (fdOf x) fun fd=>∃ oc od sl,x = some ⟨oc,od,.func fd,sl⟩:=.oo fun o e=>by
  obtain ⟨c,d,dt,s⟩:=o
  cases dt <;> first | exact .no | exact .yes ⟨_,_,_,e⟩
noncomputable abbrev normF (fd : FuncData) (ps : Arguments) (body : List Stmt) (sc : Scope) : FuncData:=fnX fd.name fd.qualname ps body sc [] fd.defaults fd.kwdefaults fd.doc fd.pyModule fd.annotations fd.code fd.closureTuple
noncomputable def fdW (K : Frag) (a : Nat) : Option FuncData:=oo (fdOf (K.lookup a)) fun fd=>ob (fnAt a) fun s _=>sDef s fun ps body sc=>some (normF fd ps body sc)
noncomputable def refA (v : Value) : Option Addr:=@Value.casesOn (fun _=>Option Addr) v none none none (fun _=>none) (fun _ _=>none) (fun _ _=>none) (fun _ _=>none) (fun _ _=>none) (fun _=>none) (fun _=>none) some
theorem refA_s (v : Value) : Sat (refA v) fun a=>v = .ref a:=by
  cases v <;> first | exact .no | exact .yes rfl
noncomputable def seqOf (o : Obj) : Option (List Value):=@Data.casesOn (fun _=>Option (List Value)) o.data none (fun _=>none) (fun xs _=>some xs.toList) (fun _ _=>none) (fun _ _ _=>none) (fun _ _=>none) (fun _=>none) (fun _=>none) (fun _=>none) (fun _=>none) none
theorem seqOf_s (o : Obj) : Sat (seqOf o) fun l=>∃ xs n,o.data = .seq xs n ∧ xs.toList = l:=by
  obtain ⟨c,d,dt,s⟩:=o
  cases dt <;> first | exact .no | exact .yes ⟨_,_,rfl,rfl⟩
noncomputable def dfO (K : Frag) (dV : Value) (ds : List SV) : Option Unit:=lr ds (gd (dV == .none) (some ())) fun d r=>l0 r (oo (refA dV) fun T=>oo (K.lookup T) fun o=>oo (seqOf o) fun l=>l1 l fun v=>gd (relB d v) (some ()))
noncomputable abbrev DfR (K : Frag) (dV : Value) (ds : List SV) : Prop:=(ds = [] ∧ dV = .none) ∨ ∃ T o xs n v d,dV = .ref T ∧ K.lookup T = some o ∧ o.data = .seq xs n ∧ xs.toList = [v] ∧ ds = [d] ∧ RelV ⟨[],[]⟩ d v
theorem dfO_s (K : Frag) (dV : Value) (ds : List SV) : Sat (dfO K dV ds) fun _=>DfR K dV ds :=
  .lr (P:=fun ds _=>DfR K dV ds) (.gd fun h=>.yes (.inl ⟨rfl,beq_iff_eq.mp h⟩)) fun d r=>.l0 (P:=fun r _=>DfR K dV (d :: r)) (.oS (refA_s dV) fun T hT=>.oo fun o ho=>.oS (seqOf_s o) fun l hl=>(Sat.l1 (P:=fun l _=>(∃ xs n,o.data = .seq xs n ∧ xs.toList = l) → DfR K dV [d]) fun v=>.gd fun h=>.yes fun ⟨xs,n,h1,h2⟩=>.inr ⟨T,o,xs,n,v,d,hT,ho,h1,h2,rfl,relB_i h⟩).mono fun _ k=>k hl)
noncomputable def nodupS : List Str → Bool:=@List.rec Str (fun _=>Bool) true fun x r ih=>bA (!inS x r) ih
theorem inS_of {x : Str} {l : List Str} (h : x ∈ l) : inS x l = true:=by
  induction h with
  | head r=>exact bI_seq.trans (if_pos rfl)
  | tail y _ ih=>exact bI_seq.trans (by split <;> first | rfl | exact ih)
theorem nodupS_i {l : List Str} (h : nodupS l = true) : l.Nodup:=by
  induction l with
  | nil=>exact List.nodup_nil
  | cons x r ih=>exact List.nodup_cons.mpr ⟨fun q=>nT (((inS_of q) ▸ (bA_i h).1 : (!true) = true)),ih (bA_i h).2⟩
noncomputable def kindB (sc : Scope) (x : Str) : Bool:=optT (fun k=>nkK k true true false false false) (lk x sc.names)
noncomputable def defOkB (ps : Arguments) (sc : Scope) : Bool:=bA (bA ps.posonlyargs.isEmpty (bA ps.kwonlyargs.isEmpty (bA ps.vararg.isNone (bA ps.kwarg.isNone (nodupS (ps.args.map (·.arg)))))))
  (bA (decide (sc.kind = .function)) (bA (!sc.isCoroutine) (bA (!sc.isGenerator) (bA (nodupS (sc.names.map (·.1))) (bA (allL (kindB sc) (ps.args.map (·.arg))) (allL (fun p=>nkK p.2 true true false true true) sc.names))))))
theorem not_i {b : Bool} (h : (!b) = true) : b = false:=by
  cases b
  · rfl
  · exact nT h
theorem defOkB_i {ps : Arguments} {sc : Scope} (h : defOkB ps sc = true) : DefOk ps sc:=by
  have a1:=bA_i (bA_i h).1
  have a2:=bA_i a1.2
  have a3:=bA_i a2.2
  have a4:=bA_i a3.2
  have b1:=bA_i (bA_i h).2
  have b2:=bA_i b1.2
  have b3:=bA_i b2.2
  have b4:=bA_i b3.2
  have b5:=bA_i b4.2
  refine ⟨⟨List.isEmpty_iff.mp a1.1,List.isEmpty_iff.mp a2.1,Option.isNone_iff_eq_none.mp a3.1,Option.isNone_iff_eq_none.mp a4.1,nodupS_i a4.2⟩,of_decide_eq_true b1.1,not_i b2.1,not_i b3.1,nodupS_i b4.1,fun x hx=>?_,fun p hp q=>nT (q ▸ allL_i b5.2 p hp : nkK .free true true false true true = true)⟩
  obtain ⟨k,e,hk⟩:=optT_i (allL_i b5.1 x hx)
  rw [e]
  cases k <;> first | exact nT hk | exact .inl rfl | exact .inr rfl
noncomputable def defB (K : Frag) (a : Nat) : Bool:=optT (fun b=>b) (oo (fdOf (K.lookup a)) fun fd=>ob (fnAt a) fun s ds=>sDef s fun ps body sc=>some (bA (codeIn K fd.code fd.qualname) (bA (dfO K fd.defaults ds).isSome (defOkB ps sc))))
noncomputable def mroR : List Value:=[.ref 51,.ref 31,.type "Exception",.type "BaseException",.type "object"]
noncomputable def bmE : List Value:=[.type "Exception",.type "BaseException",.type "object"]
noncomputable def oR (P : Params) : Obj:=(List.lookup 51 (KF P)).getD { cls:=.none }
noncomputable def dR (P : Params) : ClassData:=(clsIn (KF P) 51).getD { name:=Str.empty,bases:=[],mro:=[],ns:=0 }
noncomputable def kR (P : Params) (i : Nat) : Option Value:=((oR P).slots.toList[i]?).getD none
noncomputable abbrev rO (P : Params) : Obj:=excClassObj (dR P).name (dR P).qualname 51 (dR P).ns (dR P).bases mroR.tail true (dR P).slotNames (dR P).subclasses (dR P).abstract (dR P).collection (oR P).dict (kR P 0) (kR P 1) (kR P 2) (kR P 3) (kR P 5) "Exception.__new__"
noncomputable def msgN : Str:=Str.ofString "message"
theorem kg_ok (P : Params) : (K.lmap (fun a=>fdOf ((KF P).lookup a)) fnT.keys = K.lmap (fdW (KF P)) fnT.keys) ∧ (allL (defB (KF P)) fnT.keys = true) ∧ (List.lookup 51 (KF P) = some (rO P)) ∧ (clsIn (KF P) 51 = some (dR P)) ∧ ((dR P).mro = mroR) ∧ (tailIn (KF P) bmE mroR.tail = true) ∧ (findIn (KF P) (.ref 51) "__init__" = some (some (.ref 48))) ∧ (hasDictIn (KF P) 51 = true) ∧ (findIn (KF P) (.ref 51) "__setattr__" = some (some (.builtin "object.__setattr__"))) ∧ (findIn (KF P) (.ref 51) "__getattribute__" = some (some (.builtin "BaseException.__getattribute__"))) ∧ (findIn (KF P) (.ref 51) "__getattr__" = some none) ∧ (findIn (KF P) (.ref 51) msgN = some none) ∧ (typeIn (KF P) (.ref 48) = some (.type "function")) ∧ (keepIn (KF P) (.ref 51) = true):=⟨by kernel_rfl,by kernel_rfl,by kernel_rfl,by kernel_rfl,by kernel_rfl,by kernel_rfl,by kernel_rfl,by kernel_rfl,by kernel_rfl,by kernel_rfl,by kernel_rfl,by kernel_rfl,by kernel_rfl,by kernel_rfl⟩
theorem isCls_three {c : Nat} (h : isCls c = true) : c ∈ threeC:=by
  rcases Bool.or_eq_true_iff.mp h with h | h
  · exact Nat.eq_of_beq_eq_true h ▸ .tail _ (.head _)
  rcases Bool.or_eq_true_iff.mp h with h | h
  · exact Nat.eq_of_beq_eq_true h ▸ .head _
  · exact Nat.eq_of_beq_eq_true h ▸ .tail _ (.tail _ (.head _))
theorem bI3 {α : Type} {P : α → Prop} {c a b d : Nat} {x y z w : α} (h : P (bI (Nat.beq c a) x (bI (Nat.beq c b) y (bI (Nat.beq c d) z w)))) (hw : ¬ P w) : c = a ∨ c = b ∨ c = d:=by
  cases q : Nat.beq c a with
  | true=>exact .inl (Nat.eq_of_beq_eq_true q)
  | false =>
    cases q' : Nat.beq c b with
    | true=>exact .inr (.inl (Nat.eq_of_beq_eq_true q'))
    | false =>
      cases q'' : Nat.beq c d with
      | true=>exact .inr (.inr (Nat.eq_of_beq_eq_true q''))
      | false=>rw [q,q',q''] at h; exact absurd h hw
theorem three_of {c : Nat} (h : c = 304 ∨ c = 275 ∨ c = 503) : c ∈ threeC:=h.elim (fun e=>e ▸ .head _) fun h=>h.elim (fun e=>e ▸ .tail _ (.head _)) fun e=>e ▸ .tail _ (.tail _ (.head _))
theorem attrs_dom {c : Nat} {x : Str} (h : inS x (attrsOf c) = true) : c ∈ threeC:=three_of (bI3 (P:=fun l=>inS x l = true) h fun h=>nT h)
theorem init_dom {c i : Nat} (h : initAt c = some i) : c ∈ threeC:=three_of ((bI3 (P:=fun l=>l = some i) h fun h=>nS h).elim (fun e=>.inr (.inl e)) fun h=>h.elim .inl fun h=>.inr (.inr h))
theorem globB_i {K : Frag} {x : Str} {sv : SV} (h : globB K (x,sv) = true) : GlobOk K x sv:=by
  obtain ⟨o,e,h⟩:=optT_i h
  cases o with
  | some v=>exact .inl ⟨v,e,relB_i h⟩
  | none =>
    obtain ⟨v,e',h'⟩:=optT_i (bA_i h).2
    exact .inr ⟨e,fun q=>nT (q ▸ (bA_i h).1 : (!seq ("__name__" : Str) (Str.ofString "__name__")) = true),v,e',relB_i h'⟩
theorem defB_i {K : Frag} {a : Nat} {name : Str} {ps : Arguments} {body d1 : _} {d2 d3 : _} {sc : Scope} {d4 d5 d6 : _} {ds : List SV} (hf : fnAt a = some (.FunctionDef name ps body d1 d2 d3 sc d4 d5 d6,ds)) (h : defB K a = true) (e : fdOf (K.lookup a) = fdW K a) : DefOk ps sc ∧ FunIs K a ps body sc ds:=by
  obtain ⟨b,h1,rfl⟩:=optT_i h
  obtain ⟨fd,hq,h1⟩:=oo_i h1
  obtain ⟨s,ds',hs,h1⟩:=ob_i h1
  obtain ⟨rfl,rfl⟩:=sp (hf.symm.trans hs)
  have h1:=bA_i (Option.some.inj h1)
  have h2:=bA_i h1.2
  obtain ⟨oc,od,sl,hl⟩:=fdOf_s _ hq
  have e' : fdW K a = some (normF fd ps body sc):=by unfold fdW; rw [hq,hf]; rfl
  obtain ⟨u,hu⟩:=Option.isSome_iff_exists.mp h2.1
  have efd:=Option.some.inj (hq.symm.trans (e.trans e'))
  exact ⟨defOkB_i h2.2,fd.name,fd.qualname,fd.defaults,fd.kwdefaults,fd.doc,fd.pyModule,fd.annotations,fd.code,fd.closureTuple,oc,od,sl,hl.trans (congrArg (fun z=>some (⟨oc,od,.func z,sl⟩ : Obj)) efd),h1.1,dfO_s K fd.defaults ds hu⟩
theorem kok {G : Cx} (hK : G.K = KF G.w.params) : KOk3 G:=by
  have hAt:=(kf_ok G.w.params).2.1
  have hGl:=(kf_ok G.w.params).2.2.1
  have hCl:=(kf_ok G.w.params).2.2.2.1
  have hMe:=(kf_ok G.w.params).2.2.2.2.1
  have hKe:=(kf_ok G.w.params).2.2.2.2.2.1
  have hMa:=(kf_ok G.w.params).2.2.2.2.2.2.1
  have hFd:=(kg_ok G.w.params).1
  have hDe:=(kg_ok G.w.params).2.1
  rw [← hK] at hAt hGl hCl hMe hKe hMa hFd hDe
  refine ⟨⟨fun c x hx=>?_,fun p hp=>globB_i (allL_i hGl p hp),⟨fun c hc=>(bA_i (allL_i (bA_i hCl).1 c (isCls_three hc))).1,fun c c' hc hc' hne=>?_,(bA_i hCl).2⟩,fun c x f hm=>?_,fun a ha=>?_,fun a i hi=>?_⟩,fun a name ps body d1 d2 d3 sc d4 d5 d6 ds hf=>?_⟩
  · have h1:=bA_i (allL_i (allL_i hAt c (attrs_dom hx)) x (inS_iff hx))
    have h2:=bA_i h1.2
    have h3:=bA_i h2.2
    have h4:=bA_i h3.2
    have h5:=bA_i h4.2
    exact ⟨h1.1,h2.1,optT_i h3.1,beq_iff_eq.mp h4.1,h5.1,beq_iff_eq.mp h5.2⟩
  · have h:=allL_i (bA_i (allL_i (bA_i hCl).1 c (isCls_three hc))).2 c' (isCls_three hc')
    cases q : Nat.beq c' c with
    | true=>exact absurd (Nat.eq_of_beq_eq_true q) hne
    | false =>
      rw [q] at h
      have h1:=bA_i h
      have h2:=bA_i h1.2
      have h3:=bA_i h2.2
      have h4:=bA_i h3.2
      have h5:=bA_i h4.2
      have h6:=bA_i h5.2
      exact ⟨h1.1,h2.1,h3.1,beq_iff_eq.mp h4.1,beq_iff_eq.mp h5.1,beq_iff_eq.mp h6.1,beq_iff_eq.mp h6.2⟩
  · obtain ⟨q,e⟩:=gd_i hm
    have h1:=bA_i (allL_i hMe _ (lk_mem e))
    have h2:=bA_i h1.2
    rw [Nat.eq_of_beq_eq_true q]
    exact ⟨h1.1,beq_iff_eq.mp h2.1,h2.2⟩
  · rcases ha with ha | ha
    · obtain ⟨p,hp⟩:=Option.isSome_iff_exists.mp ha
      exact allL_i (bA_i hKe).1 a (fnT.get_key a hp)
    · obtain ⟨i,hi⟩:=Option.isSome_iff_exists.mp ha
      exact allL_i (bA_i hKe).2 a (init_dom hi)
  · obtain ⟨j,e,h⟩:=optT_i (allL_i hMa a (init_dom hi))
    rw [hi] at e
    have h1:=bA_i (Option.some.inj e ▸ h)
    have h2:=bA_i h1.2
    exact ⟨h1.1,beq_iff_eq.mp h2.1,beq_iff_eq.mp h2.2⟩
  · rw [K.lmap_eq,K.lmap_eq] at hFd
    exact defB_i hf (allL_i hDe a (fnT.get_key a hf)) (List.map_inj_left.mp hFd a (fnT.get_key a hf))
theorem lookup_map_key {β : Type} {f : Nat → β} {a : Nat} {o : β} {l : List Nat} (h : (l.map fun a=>(a,f a)).lookup a = some o) : a ∈ l ∧ o = f a:=by
  induction l with
  | nil=>exact nS h
  | cons b r ih =>
    rw [List.map_cons,List.lookup_cons] at h
    by_cases q : a = b
    · rw [q,beq_self_eq_true] at h
      exact q ▸ ⟨.head _,(Option.some.inj h).symm.trans (q ▸ rfl)⟩
    · rw [beq_eq_false_iff_ne.mpr q] at h
      exact ⟨.tail _ (ih h).1,(ih h).2⟩
theorem alive_of {o : Obj} (h : (!o.isFreed) = true) : alive o = some o:=by
  obtain ⟨c,d,dt,sl⟩:=o
  cases dt <;> first | rfl | exact nT h
theorem KF_in {w : World} {h : Heap} (y : YP0 w h) : (KF w.params).In h:=by
  intro a o e
  obtain ⟨hm,ho⟩:=lookup_map_key e
  have hp:=bA_i (allL_i ((kf_ok w.params).1) a hm)
  obtain ⟨o',ho',h2⟩:=optT_i hp.2
  rw [ho'] at ho
  have ho : o = o':=ho
  subst ho
  refine y a o ?_
  show (absHeap (treeT w.params) (tsAt 153 w.params).n (boot_heap w.params).life).get? a = some o
  rw [abs_get (Nat.blt_eq.mp hp.1) ho',alive_of h2]
noncomputable def defP (s : Stmt) : Option (Arguments × List Stmt × Scope):=sDef s fun ps b sc=>some (ps,b,sc)
noncomputable def bodyOf (s : Stmt) : List Stmt:=@Option.rec (Arguments × List Stmt × Scope) (fun _=>List Stmt) [] (fun q=>q.2.1) (defP s)
noncomputable def scOf (s : Stmt) : Scope:=@Option.rec (Arguments × List Stmt × Scope) (fun _=>Scope) default (fun q=>q.2.2) (defP s)
noncomputable def psOf (s : Stmt) : Arguments:=@Option.rec (Arguments × List Stmt × Scope) (fun _=>Arguments) default (fun q=>q.1) (defP s)
theorem KOk3.def' {G : Cx} (ko : KOk3 G) {a : Nat} {st : Stmt} {ds : List SV} (h : fnAt a = some (st,ds)) (hd : (defP st).isSome = true) : DefOk (psOf st) (scOf st) ∧ FunIs G.K a (psOf st) (bodyOf st) (scOf st) ds:=by
  obtain ⟨q,e⟩:=Option.isSome_iff_exists.mp hd
  unfold psOf scOf bodyOf
  rw [e]
  exact (Sat.sDef (P:=fun q=>DefOk q.1 q.2.2 ∧ FunIs G.K a q.1 q.2.1 q.2.2 ds) fun name ps body d1 d2 d3 sc d4 d5 d6 e=>.yes (ko.defs _ _ _ _ _ _ _ _ _ _ _ _ (e ▸ h))) e
noncomputable def intD (xs : List Int) : List D:=xs.map .int
noncomputable def IsScript (xs : List Int) (o : Obj) : Prop:=∃ vs : List Value,o = listOf vs.toArray 0 ∧ RelDs [] (intD xs) vs
theorem ints_of {R : WRecords} {l : List WData} (h : WShape.hasItems R l .int = true) : ∃ xs : List Int,l = xs.map .int:=by
  induction l with
  | nil=>exact ⟨[],rfl⟩
  | cons d r ih =>
    obtain ⟨h1,h2⟩:=Bool.and_eq_true_iff.mp h
    obtain ⟨xs,rfl⟩:=ih h2
    cases d <;> first | exact ⟨_ :: xs,rfl⟩ | exact nT h1
theorem pre_is : OpenLaw.pre rw0 = .and (.not (.lt (.lit (.int 63)) (.len (.arg 0)))) (.lit (.bool true)):=rfl
theorem args_of {args : List WData} (h : row0.toRowW.claim.pre args = true) : ∃ xs : List Int,args = [.list (xs.map .int)] ∧ xs.length ≤ 63:=by
  have h : (WShape.hasAll [] args [.list .int] && (OpenLaw.pre rw0).holds [] { args:=args }) = true:=h
  rw [pre_is] at h
  obtain ⟨h1,h2⟩:=Bool.and_eq_true_iff.mp h
  match args,h1,h2 with
  | [d],h1,h2 =>
    obtain ⟨h1,_⟩:=Bool.and_eq_true_iff.mp h1
    cases d with
    | list l =>
      have h3 : (WShape.hasItems [] l .int || false) = true:=h1
      rw [Bool.or_false] at h3
      obtain ⟨xs,rfl⟩:=ints_of h3
      refine ⟨xs,rfl,Nat.le_of_not_lt fun q=>?_⟩
      simp [WTm.holds,WTm.value] at h2
      have hl : less? (WData.int 63) (WData.int (xs.length : Int)) = some true:=congrArg some (decide_eq_true (by omega : (63 : Int) < xs.length))
      rw [hl] at h2
      exact nT h2
    | _=>exact nT h1
  | [],h1,_=>exact nT h1
  | _ :: _ :: _,h1,_=>exact nT ((Bool.and_false _).symm.trans h1)
theorem hide_ns {h : Heap} {a L : Addr} {m : Str → Option Value} {its : Array Value} {n : Nat} (ha : h.get? a = some (listOf its n)) (x : h.Ns L m) : (hideAll h [a]).Ns L m:=by
  obtain ⟨o,es,ep,h1,h2,h3⟩:=x
  refine ⟨o,es,ep,hideAll_get _ h1 fun q=>?_,h2,h3⟩
  rw [List.mem_singleton.mp q,ha] at h1
  exact nomatch (congrArg Obj.data (Option.some.inj h1)).trans h2
theorem ints_vals {R : WRecords} {cl : Str → Option Addr} {h : Heap} {xs : List Int} : ∀ {vs : List Value} {as : List Addr},ReadsAllW R cl h vs (xs.map .int) as → RelDs [] (intD xs) vs:=by
  induction xs with
  | nil=>exact fun r=>by cases r; rfl
  | cons x xs ih=>exact fun r=>by cases r with | cons r1 r2=>cases r1; exact ⟨_,_,rfl,⟨_,rfl⟩,ih r2⟩
theorem law_name : dk.1.name = Str.ofString "law":=by kernel_rfl
theorem law_bind : bindA [] (K.lmap (·.arg) (psOf (stN 152)).args) [.ref 0] = some [(Str.ofString "script",.ref 0)]:=by kernel_rfl
theorem hide_K {w : World} {h : Heap} {b : Addr} {its : Array Value} {n : Nat} (KX : (KF w.params).In h) (hb : h.get? b = some (listOf its n)) : (KF w.params).In (hideAll h [b]):=by
  intro a o e
  have h1:=KX a o e
  refine hideAll_get _ h1 fun q=>?_
  obtain ⟨hm,ho⟩:=lookup_map_key e
  have h2:=allL_i ((kf_ok w.params).2.2.2.2.2.2.2.1) a hm
  rw [← ho] at h2
  rw [List.mem_singleton.mp q,hb] at h1
  rw [← Option.some.inj h1] at h2
  exact nT (h2 : (!(Value.type "list" == Value.type "list")) = true)
theorem post_ok (xs : List Int) : row0.toRowW.claim.post [.list (xs.map .int)] (.bool true) [.list (xs.map .int)] = true:=by
  first | kernel_rfl | wrow_post
noncomputable def CvO (V V' : Vx) (o o' : SO) : Prop:=∀ ⦃k : Kn⦄ ⦃ob : Obj⦄,RelO V k o ob → RelO V' k o' ob
noncomputable abbrev Conv (V V' : Vx) : Sto → Sto → Prop:=All2 (CvO V V')
theorem CvO.refl {V : Vx} {o : SO} : CvO V V o o:=fun _ _ h=>h
theorem CvO.bd_dl {V : Vx} {j : Nat} : CvO V V (.bd j) (.dl (intD (V.bv j))):=fun _ _ h=>LsR.mono h fun _ h=>h.2
theorem CvO.dl_bd {V : Vx} {j : Nat} {ys : List Int} (e : V.bv j = ys) (hz : ys.length ≤ 1000) : CvO V V (.dl (intD ys)) (.bd j):=fun _ _ h=>LsR.mono h fun _ h=>⟨e ▸ hz,e ▸ h⟩
theorem CvO.bd {V V' : Vx} {q q' : Nat} (e : V'.bv q' = V.bv q) : CvO V V' (.bd q) (.bd q'):=fun _ _ h=>LsR.mono h fun _ h=>e ▸ h
theorem CvO.sy {V V' : Vx} {n n' : Nat} {al al' : List D} {l l' : LX} (e : den V'.val l' = den V.val l) (ha : (∀ x ∈ den V.val l,x ∈ al) → ∀ x ∈ den V.val l,x ∈ al') (hn : (den V.val l).length ≤ n → (den V.val l).length ≤ n') : CvO V V' (.sy n al l) (.sy n' al' l'):=fun _ _ h=>LsR.mono h fun _ h=>⟨fun x hx=>ha h.1 x (e ▸ hx),e ▸ hn h.2.1,e ▸ h.2.2⟩
theorem Conv.refl {V : Vx} {σ : Sto} : Conv V V σ σ:=by
  induction σ with
  | nil=>exact .nil
  | cons a x ih=>exact .cons .refl ih
theorem Conv.trans {V V' V'' : Vx} {σ : Sto} {σ' σ'' : Sto} (a : Conv V V' σ σ') (b : Conv V' V'' σ' σ'') : Conv V V'' σ σ'':=by
  induction σ generalizing σ' σ'' with
  | nil=>cases (show _ = [] from a); exact b
  | cons o x ih =>
    obtain ⟨o',r,rfl,h,k⟩:=a
    obtain ⟨o'',r',rfl,h',k'⟩:=b
    exact .cons (fun _ _ z=>h' (h z)) (ih k k')
noncomputable abbrev Cx.vx (G : Cx) (V' : Vx) : Cx:={ G with V:=V' }
section
variable {G : Cx} {V' : Vx} {n k a : Nat} {c : Ct} {W : Wd} {σ σ₁ σ₁' σ' σ'' : Sto} {h : Heap} {sc : Scope} {e : Expr} {st : Stmt} {l : List Stmt} {ρ ρ' ρ'' : Rho} {args : List SV} {sv : SV} {out : Out} {b : Bool} {env : Env} {m cm : Str → Option Value} {cs rest : Led}
theorem Fy.convV (Y : Fy G c W σ h) (cv : Conv G.V V' σ σ') : Fy (G.vx V') c W σ' h :=
  ⟨⟨Y.Z.B,Y.Z.fro,Y.Z.X,Y.Z.T,Y.Z.kept⟩,Y.F,Y.N,Y.lo,Y.AC,⟨All2.conv (fun _ _ _ f r=>f r) cv Y.S.rel,Y.S.nodup,Y.S.tup⟩⟩
theorem Fx.convV (X : Fx G c env sc cm W ρ σ h) (cv : Conv G.V V' σ σ') : Fx (G.vx V') c env sc cm W ρ σ' h:=⟨X.Y.convV cv,X.L,X.E,X.C,X.V⟩
theorem Fs.convV (X : Fs G c env sc m cm cs rest W ρ σ h) (cv : Conv G.V V' σ σ') : Fs (G.vx V') c env sc m cm cs rest W ρ σ' h:=⟨X.toFx.convV cv,X.own,X.ndn,X.ndc,X.off,X.keptR,X.has⟩
theorem FnT.swapV (hw : V'.w = G.V.w) (f : FnT (G.vx V') n a args σ₁ sv σ₁') (ci : Conv G.V V' σ σ₁) (co : Conv V' G.V σ₁' σ') : FnT G n a args σ sv σ':=fun c W C s vals hA Y r k=>by
  rw [show G.M = (G.vx V').M from congrArg (model pw) hw.symm]
  exact f hA (Y.convV ci) r fun v h' tk W' Y' r' mo=>k (Fy.convV (G:=G.vx V') (V':=G.V) Y' co) r' mo
theorem FnT.conv (f : FnT G n a args σ₁ sv σ₁') (ci : Conv G.V G.V σ σ₁) (co : Conv G.V G.V σ₁' σ') : FnT G n a args σ sv σ':=FnT.swapV (V':=G.V) rfl f ci co
theorem EvT.conv (h : EvT G n sc e ρ σ sv σ') (co : Conv G.V G.V σ' σ'') : EvT G n sc e ρ σ sv σ'':=fun c env cm W E Q s hA X k=>h hA X fun v h' tk W' Y' r' mo=>k (Fy.convV Y' co) r' mo
noncomputable def SubR (ρ' ρ : Rho) : Prop:=∀ x sv,lk x ρ' = some sv → lk x ρ = some sv
theorem SubR.refl {ρ : Rho} : SubR ρ ρ:=fun _ _ h=>h
theorem Fs.weakR (X : Fs G c env sc m cm cs rest W ρ σ h) (w : SubR ρ' ρ) : Fs G c env sc m cm cs rest W ρ' σ h:={ X with V:=fun x sv e=>X.V x sv (w x sv e) }
theorem ExT.post (h : ExT G n sc l ρ σ out ρ' σ') (w : SubR ρ'' ρ') (co : Conv G.V G.V σ' σ'') : ExT G n sc l ρ σ out ρ'' σ'':=fun c env m cm cs rest W E Q s hA X k=>h hA X fun m' cm' cs' h' tk W' fl X' mo fr=>k ((Fs.convV X' co).weakR w) mo fr
theorem StT.post (h : StT G n sc st ρ σ out ρ' σ') (w : SubR ρ'' ρ') (co : Conv G.V G.V σ' σ'') : StT G n sc st ρ σ out ρ'' σ'':=fun c env m cm cs rest W E Q s hA X k=>h hA X fun m' cm' cs' h' tk W' fl X' mo fr=>k ((Fs.convV X' co).weakR w) mo fr
theorem StT.conv (h : StT G n sc st ρ σ out ρ' σ') (co : Conv G.V G.V σ' σ'') : StT G n sc st ρ σ out ρ' σ'':=h.post .refl co
theorem ExT.pre (h : ExT G n sc l ρ' σ' out ρ'' σ'') (w : SubR ρ' ρ) (ci : Conv G.V G.V σ σ') : ExT G n sc l ρ σ out ρ'' σ'':=fun c env m cm cs rest W E Q s hA X k=>h hA ((X.convV ci).weakR w) k
theorem TstT.le (h : TstT G n sc e ρ σ b σ') (hk : n ≤ k) : TstT G k sc e ρ σ b σ':=fun c env cm W E Q s hA X q=>h (hA.le hk) X q
theorem ExT.last (h : StT G n sc st ρ σ out ρ' σ') : ExT G n sc [st] ρ σ out ρ' σ':=by
  by_cases q : out = .next
  · subst q; exact .next h .nil
  · exact .stop h q
theorem tab0 (G : Cx) : TabOk G T0:=⟨FactsOk.nil G.V [],fun _ _ e=>nS e,fun _ _ _ e=>nS e,fun _ _ _ e=>nS e⟩
theorem rec0 (ko : KOk3 G) (n : Nat) : RecOk G n (runF n T0):=run_ok ko n T0 (tab0 G)
variable {T : Tab}
theorem EvT.run (ko : KOk3 G) (ht : TabOk G T) (q : (runF n T).ev sc e ρ σ = some (sv,σ')) : EvT G n sc e ρ σ sv σ':=(run_ok ko n T ht).ev sc e ρ σ q
theorem TstT.run (ko : KOk3 G) (ht : TabOk G T) (q : (runF n T).tst sc e ρ σ = some (b,σ')) : TstT G n sc e ρ σ b σ':=(run_ok ko n T ht).tst sc e ρ σ q
theorem ExT.run (ko : KOk3 G) (ht : TabOk G T) (q : (runF n T).ex sc l ρ σ = some (out,ρ',σ')) : ExT G n sc l ρ σ out ρ' σ':=(run_ok ko n T ht).ex sc l ρ σ q
theorem StT.run (ko : KOk3 G) (ht : TabOk G T) (q : exS (runF n T) sc st ρ σ = some (out,ρ',σ')) : StT G n sc st ρ σ out ρ' σ' :=
  have ro:=run_ok ko n T ht
  exS_s ko.toKOk ro.ev ro.cm ro.tst ro.ex st q
noncomputable def callG (n : Nat) (T : Tab) (a : Nat) : Fn:=fun args σ=>ob ((runF n T).call a args σ) (gc (K.len σ))
theorem FnT.run (ko : KOk3 G) (ht : TabOk G T) (q : callG n T a args σ = some (sv,σ')) : FnT G n a args σ sv σ':=(Sat.bS (Q:=FnT G n a args σ) ((run_ok ko n T ht).call a args σ) fun v σ₁ h=>FnT.gcd h) q
theorem FnT.def' (ko : KOk3 G) {ds : List SV} {v : SV} (h : fnAt a = some (st,ds)) (hd : (defP st).isSome = true) (hb : bindA ds (K.lmap (·.arg) (psOf st).args) args = some ρ) (hx : ExT G n (scOf st) (bodyOf st) ρ σ out ρ' σ') (hv : outV out = some v) (g : gc (K.len σ) v σ' = some (sv,σ'')) : FnT G (n + 1) a args σ sv σ'' :=
  FnT.gcd (FnT.bodyL (ko.def' h hd).1 (ko.def' h hd).2 hb hx hv) g
end
noncomputable def s00 : Stmt:=.Pass ⟨0,0,0,0⟩
noncomputable def stAt (l : List Stmt) (i : Nat) : Stmt:=(K.nth l i).getD s00
noncomputable def pa (e : Expr) (i : Nat) : Expr:=@Option.rec (Sk × List Expr) (fun _=>Expr) dE (fun v=>(K.nth v.2 i).getD dE) (view e)
noncomputable def lcSc (e : Expr) : Scope:=@Option.rec (Sk × List Expr) (fun _=>Scope) default (fun v=>v.1.2.2.2.2.2.2.2.getD default) (view e)
noncomputable def sa (s : Stmt) (i : Nat) : Expr:=@Option.rec ((Nat × Pos) × List Expr × List (List Stmt)) (fun _=>Expr) dE (fun v=>(K.nth v.2.1 i).getD dE) (viewS s)
noncomputable def sb (s : Stmt) (i : Nat) : List Stmt:=@Option.rec ((Nat × Pos) × List Expr × List (List Stmt)) (fun _=>List Stmt) [] (fun v=>(K.nth v.2.2 i).getD []) (viewS s)
noncomputable def retQ (s : Stmt) : Option Expr:=@Stmt.casesOn (fun _=>Option Expr) s (fun _ _ _ _ _ _ _ _ _ _=>none) (fun _ _ _ _ _ _ _ _ _ _=>none) (fun _ _ _ _ _ _ _ _ _ _ _=>none) (fun e _=>e) (fun _ _=>none) (fun _ _ _=>none) (fun _ _ _ _ _ _ _=>none) (fun _ _ _ _=>none) (fun _ _ _ _ _=>none)
  (fun _ _ _ _ _=>none) (fun _ _ _ _ _=>none) (fun _ _ _ _=>none) (fun _ _ _ _=>none) (fun _ _ _=>none) (fun _ _ _=>none) (fun _ _ _=>none) (fun _ _ _=>none) (fun _ _ _ _ _=>none) (fun _ _ _ _ _=>none) (fun _ _ _=>none) (fun _ _=>none) (fun _ _ _ _=>none) (fun _ _=>none) (fun _ _=>none) (fun _ _=>none) (fun _=>none) (fun _=>none) (fun _=>none)
noncomputable def retE (s : Stmt) : Expr:=(retQ s).getD dE
noncomputable def drawV (xs : List Int) (m : Int) : Int:=@Option.rec Int (fun _=>Int) 0 (fun y=>Int.fmod y m) xs.getLast?
theorem okInts (xs : List Int) : okAll (okD 8) (intD xs) = true:=by
  induction xs with
  | nil=>rfl
  | cons x r ih=>exact ih
theorem glen_to {α γ : Type} {l : List α} {n : Nat} {x : Option γ} (h : l.length ≤ n) : glen l n x = x:=by
  unfold glen
  rw [K.len_eq,Nat.ble_eq_true_of_le h]
  rfl
noncomputable def bdS : Stmt:=stAt (bodyOf (stN 139)) 0
noncomputable def bdE : Expr:=retE bdS
noncomputable def bdC : Expr:=pa (pa bdE 1) 0
theorem bead_shape : bodyOf (stN 139) = [.Return (some (.IfExp (.Compare (pa (pa bdE 0) 0) [.NotEq] [pa (pa bdE 0) 1] (pa bdE 0).pos) (.BinOp (.Call (.Attribute (pa (pa bdC 0) 0) (Str.ofString "pop") (pa bdC 0).pos) [] [] bdC.pos) .Mod (pa (pa bdE 1) 1) (pa bdE 1).pos) (pa bdE 2) bdE.pos)) bdS.pos]:=by kernel_rfl
section
variable {G : Cx} {n : Nat} {sc : Scope} {ρ : Rho} {σ σ₁ σ₂ σ' : Sto} {v sv : SV}
theorem BinT.run {op : Operator} {a b : SV} (e : binop op a b σ = some (sv,σ')) : BinT G op a b σ sv σ':=binop_s e
theorem EvT.meth0 (ko : KOk G) {F : Facts} (fo : FactsOk G.V F) {o : Expr} {x : Str} {ap pos : Pos} {me : Me} (hb : baseE o = true) (hl : Nat.beq ap.endLine pos.line = true) (h1 : EvT G n sc o ρ σ v σ₁) (hm : methOf v x σ₁ = some me) (hk : KeepOk G (meVal me)) (hv : meVal me = .builtin (meId me)) (e : bcall F me v [] σ₁ = some (sv,σ')) : EvT G n sc (.Call (.Attribute o x ap) [] [] pos) ρ σ sv σ' :=
  EvT.meth ko hb hl (Nat.zero_le _) h1 hm .nil hk (hv ▸ bcall_s fo me v [] e)
abbrev rhoD (m : Int) : Rho:=[(Str.ofString "beads",.ref 0),(Str.ofString "most",.d (.int m))]
theorem bead_body (ko : KOk3 G) {xs : List Int} {m : Int} (hm : 0 < m) (hz : xs.length ≤ 1000) : ExT G 11 (scOf (stN 139)) (bodyOf (stN 139)) (rhoD m) [.dl (intD xs)] (.ret (.d (.int (drawV xs m)))) (rhoD m) [.dl (intD xs.dropLast),.dl []]:=by
  have t0:=tab0 G
  rw [bead_shape]
  have l1 : EvT G 11 (scOf (stN 139)) (pa (pa bdE 0) 0) (rhoD m) [.dl (intD xs)] (.ref 0) [.dl (intD xs)]:=EvT.run ko t0 (by kernel_rfl)
  have l2 : EvT G 11 (scOf (stN 139)) (pa (pa bdE 0) 1) (rhoD m) [.dl (intD xs)] (.ref 1) [.dl (intD xs),.dl []]:=EvT.run ko t0 (by kernel_rfl)
  have l3 : EvT G 11 (scOf (stN 139)) (pa (pa bdC 0) 0) (rhoD m) [.dl (intD xs),.dl []] (.ref 0) [.dl (intD xs),.dl []]:=EvT.run ko t0 (by kernel_rfl)
  have l5 : EvT G 11 (scOf (stN 139)) (pa (pa bdE 1) 1) (rhoD m) [.dl (intD xs.dropLast),.dl []] (.d (.int m)) [.dl (intD xs.dropLast),.dl []]:=EvT.run ko t0 (by kernel_rfl)
  refine ExT.last (StT.ret ?_)
  cases q : xs.getLast? with
  | none =>
    cases List.getLast?_eq_none_iff.mp q
    refine EvT.ite (EvT.cmp (FactsOk.nil G.V []) (z:=false) (by kernel_rfl) l1 l2 (by kernel_rfl)).2 ?_
    exact EvT.run ko t0 (by kernel_rfl)
  | some y =>
    have hc : cmp F0 .NotEq (.ref 0) (.ref 1) [.dl (intD xs),.dl []] = some true:=by
      show om (oo (gd (okAll (okD 8) (intD xs)) (some (.list (pdDs (intD xs))))) fun x=>om (some (.list [])) fun y=>eqP x y) (fun z=>!z) = _
      rw [okInts]
      cases xs
      · exact nS q
      · rfl
    have hp : bcall F0 .lpop (.ref 0) [] [.dl (intD xs),.dl []] = some (.d (.int y),[.dl (intD xs.dropLast),.dl []]):=by
      show oo (intD xs).getLast? (fun y=>glen (intD xs) 5000 (upd [.dl (intD xs),.dl []] 0 (.dl (intD xs).dropLast) (.d y))) = _
      rw [show (intD xs).getLast? = some (.int y) from (List.getLast?_map ..).trans (q ▸ rfl),show (intD xs).dropLast = intD xs.dropLast from (List.map_dropLast ..).symm]
      exact glen_to (Nat.le_trans (Nat.le_of_eq (List.length_map ..)) (Nat.le_trans hz (by decide)))
    refine EvT.ite (EvT.cmp (FactsOk.nil G.V []) (z:=true) (by kernel_rfl) l1 l2 hc).2 (EvT.bin (EvT.meth0 ko.toKOk (FactsOk.nil G.V []) (me:=.lpop) (by kernel_rfl) (by kernel_rfl) l3 (by kernel_rfl) (keepOk_builtin _) rfl hp) l5 (BinT.run ?_))
    show (bI2 _ _ _ fun x y=>if 0 < y then some (Int.fmod x y) else none) = _
    have hd : drawV xs m = Int.fmod y m:=by unfold drawV; rw [q]
    rw [hd]
    show om (if 0 < m then some (Int.fmod y m) else none) _ = _
    rw [if_pos hm]
    rfl
theorem bead_ok (ko : KOk3 G) {j j' : Nat} {m : Int} (hm : 0 < m) (hb : G.V.bv j' = (G.V.bv j).dropLast) : FnT G 12 904 [.ref 0,.d (.int m)] [.bd j] (.d (.int (drawV (G.V.bv j) m))) [.bd j']:=fun c W C s vals hA Y r k=>by
  obtain ⟨_,_,_,_,_,hz,_⟩:=Y.S.obj (i:=0) rfl
  refine FnT.conv (FnT.def' ko (st:=stN 139) (a:=904) (ds:=[]) rfl (by kernel_rfl) (by kernel_rfl) (bead_body ko hm hz) rfl (sv:=.d (.int (drawV (G.V.bv j) m))) (σ'':=[.dl (intD (G.V.bv j).dropLast)]) (by kernel_rfl)) (.one .bd_dl) (.one (.dl_bd hb (Nat.le_trans (Nat.le_trans (Nat.le_of_eq (List.length_dropLast ..)) (Nat.sub_le _ _)) hz))) hA Y r k
noncomputable abbrev Dw:=Nat × Int × Int × Nat
noncomputable def Fdraw (ds : List Dw) : Fn:=fun args σ=>l2 args fun a b=>vRef a fun i=>gd (Nat.beq i 0) (vInt b fun m=>l1 σ fun o=>@SO.casesOn (fun _=>An) o (fun _=>none) (fun _ _ _=>none) (fun _=>none) (fun _=>none) (fun _ _=>none) (fun _=>none) (fun q=>om (findB (fun e=>bA (Nat.beq e.1 q) (decide (e.2.1 = m))) ds) fun e=>(.d (.int e.2.2.1),[.bd e.2.2.2])) (fun _=>none) fun _ _=>none)
noncomputable def DrawOk (V : Vx) (e : Dw) : Prop:=0 < e.2.1 ∧ V.bv e.2.2.2 = (V.bv e.1).dropLast ∧ e.2.2.1 = drawV (V.bv e.1) e.2.1
theorem Fdraw_ok (ko : KOk3 G) {ds : List Dw} (h : ∀ e ∈ ds,DrawOk G.V e) : FnOk G 12 904 (Fdraw ds):=fun args σ =>
  .l2 (P:=fun args=>U2 (FnT G 12 904 args σ)) fun a b=>.vRef (P:=fun a=>U2 (FnT G 12 904 [a,b] σ)) fun i=>.gd fun hi=>.vInt (P:=fun b=>U2 (FnT G 12 904 [.ref i,b] σ)) fun m=>.l1 (P:=fun σ=>U2 (FnT G 12 904 [.ref i,.d (.int m)] σ)) fun o=>by
    cases o with
    | bd q =>
      refine .om fun e he=>?_
      obtain ⟨hm,he⟩:=Sat.findB ds he
      obtain ⟨h1,h2,h3⟩:=h e hm
      cases Nat.eq_of_beq_eq_true hi
      cases Nat.eq_of_beq_eq_true (bA_i he).1
      cases of_decide_eq_true (bA_i he).2
      show FnT _ _ _ _ _ (.d (.int e.2.2.1)) _
      rw [h3]
      exact bead_ok ko h1 h2
    | _=>exact .no
end
section
variable {G : Cx} {n : Nat} {R : Rec} {sc : Scope} {ρ ρ₁ ρ' : Rho} {σ σ₁ σ₂ σ' : Sto} {x : Str} {body : List Stmt} {S : Sto → Prop} {v : SV} {r : List SV} {out : Out}
theorem SubR.app {l r : Rho} : SubR l (l ++ r):=fun x sv e=>by
  rw [lk_eq] at e ⊢
  rw [List.lookup_append,e]
  rfl
theorem Turns.nil : Turns G n sc x body S [] ρ σ .next ρ σ:=⟨rfl,rfl,rfl⟩
theorem Turns.next (h : ExT G n sc body (put x v ρ) σ .next ρ₁ σ₁) (hs : S σ₁) (t : Turns G n sc x body S r ρ₁ σ₁ out ρ' σ') : Turns G n sc x body S (v :: r) ρ σ out ρ' σ':=⟨.next,ρ₁,σ₁,h,hs,t⟩
theorem Turns.brk (h : ExT G n sc body (put x v ρ) σ .brk ρ₁ σ₁) : Turns G n sc x body S (v :: r) ρ σ .next ρ₁ σ₁:=⟨.brk,ρ₁,σ₁,h,rfl,rfl,rfl⟩
theorem Turns.ret {w : SV} (h : ExT G n sc body (put x v ρ) σ (.ret w) ρ₁ σ₁) : Turns G n sc x body S (v :: r) ρ σ (.ret w) ρ₁ σ₁:=⟨.ret w,ρ₁,σ₁,h,rfl,rfl,rfl⟩
theorem StT.forP (ko : KOk G) (ok : EvOk G n R.ev) {px pos : Pos} {it : Expr} {src : Src} (hx : isVar sc x = true) (e : iterOf R sc ρ it σ = some (src,σ₁)) (tu : Turns G n sc x body src.stay (src.itemsD G.V) ρ σ₁ out ρ' σ') : StT G n sc (.For (.Name x px) it body [] pos) ρ σ out ρ' σ' :=
  have s : SrcT G n sc ρ it σ src σ₁:=iterOf_s ko ok it e
  StT.for s.kn hx s.go fun _=>tu
theorem SlT.told {i : Nat} {o₀ o o' : SO} {lo hi : Option Int} (e1 : σ[i]? = some o₀) (cv : CvO G.V G.V o₀ o) (h : cutO lo hi o = some o') : SlT G (.ref i) lo hi none σ (.ref σ.length) (σ ++ [o']):=fun c W E Q s va vl vu vk Y ra pl pu pk k=>Y.sliced e1 ra pl pu pk (by decide) (fun ws=>pick_is ws lo hi) (fun _ r=>cutO_s lo hi o h (cv r)) k
end
noncomputable def bSc : Scope:=scOf (stN 138)
noncomputable def bS (i : Nat) : Stmt:=stAt (bodyOf (stN 138)) i
noncomputable def bO (i : Nat) : Stmt:=stAt (sb (bS 1) 0) i
noncomputable def bJ (i : Nat) : Stmt:=stAt (sb (bO 1) 0) i
noncomputable def nm (x : String) : Str:=Str.ofString x
theorem b_shape : bodyOf (stN 138) = [bS 0,.For (.Name (nm "cell") (sa (bS 1) 0).pos) (sa (bS 1) 1) (sb (bS 1) 0) [] (bS 1).pos,bS 2]:=by kernel_rfl
theorem b_outer : sb (bS 1) 0 = [bO 0,.For (.Name (nm "lap") (sa (bO 1) 0).pos) (sa (bO 1) 1) (sb (bO 1) 0) [] (bO 1).pos]:=by kernel_rfl
theorem b_inner : sb (bO 1) 0 = [bJ 0,bJ 1,bJ 2]:=by kernel_rfl
noncomputable def AL84 : List D:=K.lmap (fun (k : Nat)=>D.int (k : Int)) (List.range 84)
noncomputable def ρ2 : Rho:=[(nm "script",.ref 0),(nm "beads",.ref 1)]
noncomputable def ρ3 (c : Int) : Rho:=ρ2 ++ [(nm "cell",.d (.int c))]
noncomputable def ρ4 (c z : Int) : Rho:=ρ2 ++ [(nm "cell",.d (.int c)),(nm "string",.d (.int z))]
noncomputable def ρ5 (c z k : Int) : Rho:=ρ4 c z ++ [(nm "lap",.d (.int k))]
noncomputable def bMid (q : Nat) (y : D) : SO:=.sy 101 (y :: AL84) (.cat (.var q) (.lit [y]))
noncomputable def Tc (c : Nat) : Tab:={ T0 with F:={ F0 with lens:=[(.var (200 + c),c)] } }
theorem i0_run (c z k : Int) (q : Nat) (o0 o2 : SO) : exS (runF 20 T0) bSc (bJ 0) (ρ5 c z k) [o0,.sy 100 AL84 (.var q),o2] = some (.next,ρ5 c z k,[o0,bMid q (.int (Int.fmod z 84)),o2]):=by kernel_rfl
theorem i1_run (c z k : Int) (o1 o0 o2 : SO) : exS (runF 20 T0) bSc (bJ 1) (ρ5 c z k) [o0,o1,o2] = some (.next,ρ5 c (Int.fdiv z 84) k,[o0,o1,o2]):=by kernel_rfl
theorem i2_zero (c k : Int) (o1 o0 o2 : SO) : exS (runF 20 T0) bSc (bJ 2) (ρ5 c 0 k) [o0,o1,o2] = some (.brk,ρ5 c 0 k,[o0,o1,o2]):=by kernel_rfl
noncomputable def stop50 (c : Nat) : Out:=bI (Nat.ble 50 c) .brk .next
noncomputable def mapR {α β : Type} (g : α → β) : List α → List β:=@List.rec α (fun _=>List β) [] fun a _ ih=>g a :: ih
theorem mapR_is {α β : Type} {f g : α → β} {l : List α} (h : K.lmap f l = mapR g l) : ∀ a ∈ l,f a = g a:=by
  rw [K.lmap_eq,show mapR g l = l.map g from K.lmap_eq g l] at h
  exact List.map_inj_left.mp h
noncomputable def r100 : List Nat:=List.range 100
theorem i2_pos : K.lmap (fun n=>fun (c k : Int) (m : Nat) (y : D) (o0 o2 : SO)=>exS (runF 20 (Tc n)) bSc (bJ 2) (ρ5 c (Int.ofNat (m + 1)) k) [o0,bMid (200 + n) y,o2]) r100 =
    mapR (fun n=>fun (c k : Int) (m : Nat) (y : D) (o0 o2 : SO)=>some (stop50 n,ρ5 c (Int.ofNat (m + 1)) k,[o0,bMid (200 + n) y,o2])) r100:=by kernel_rfl
theorem i2_neg : K.lmap (fun n=>fun (c k : Int) (m : Nat) (y : D) (o0 o2 : SO)=>exS (runF 20 (Tc n)) bSc (bJ 2) (ρ5 c (Int.negSucc m) k) [o0,bMid (200 + n) y,o2]) r100 =
    mapR (fun n=>fun (c k : Int) (m : Nat) (y : D) (o0 o2 : SO)=>some (stop50 n,ρ5 c (Int.negSucc m) k,[o0,bMid (200 + n) y,o2])) r100:=by kernel_rfl
theorem o0_pos (c : Nat) (o0 o1 o2 : SO) : exS (runF 20 T0) bSc (bO 0) (ρ3 (Int.ofNat c)) [o0,o1,o2] = some (.next,ρ4 (Int.ofNat c) (Int.ofNat c),[o0,o1,o2]):=by kernel_rfl
theorem o0_neg (c : Nat) (o0 o1 o2 : SO) : exS (runF 20 T0) bSc (bO 0) (ρ3 (Int.negSucc c)) [o0,o1,o2] = some (.next,ρ4 (Int.negSucc c) (11 - 5 * Int.negSucc c),[o0,o1,o2]):=by kernel_rfl
noncomputable def innerB : Nat → Int → List Int → List Int:=@Nat.rec (fun _=>Int → List Int → List Int) (fun _ b=>b) fun _ ih z b=>if Int.fdiv z 84 = 0 ∨ 50 ≤ b.length then b ++ [Int.fmod z 84] else ih (Int.fdiv z 84) (b ++ [Int.fmod z 84])
theorem innerB_s (k : Nat) (z : Int) (b : List Int) : innerB (k + 1) z b = if Int.fdiv z 84 = 0 ∨ 50 ≤ b.length then b ++ [Int.fmod z 84] else innerB k (Int.fdiv z 84) (b ++ [Int.fmod z 84]):=rfl
noncomputable def startB (c : Int) : Int:=@Int.rec (fun _=>Int) (fun c=>Int.ofNat c) (fun c=>11 - 5 * Int.negSucc c) c
noncomputable def outerB : List Int → List Int → List Int:=@List.rec Int (fun _=>List Int → List Int) (fun b=>b) fun c _ ih b=>ih (innerB 9 (startB c) b)
theorem inner_pre (k : Nat) : ∀ {z : Int} {b : List Int},b <+: innerB k z b:=by
  induction k with
  | zero=>exact List.prefix_refl _
  | succ k ih =>
    intro z b
    rw [innerB_s]
    split
    · exact List.prefix_append _ _
    · exact (List.prefix_append _ _).trans ih
theorem outer_pre (l : List Int) : ∀ {b : List Int},b <+: outerB l b:=by
  induction l with
  | nil=>exact List.prefix_refl _
  | cons c r ih=>exact (inner_pre 9).trans ih
theorem inner_len (k : Nat) : ∀ {z : Int} {b : List Int} {m : Nat},51 ≤ m → b.length ≤ m → (innerB k z b).length ≤ m + 1:=by
  induction k with
  | zero=>exact fun _ h=>Nat.le_succ_of_le h
  | succ k ih =>
    intro z b m hm h
    rw [innerB_s]
    split
    · rw [List.length_append]; exact Nat.succ_le_succ h
    · rename_i q
      exact ih hm ((List.length_append ..).symm ▸ Nat.le_trans (Nat.succ_le_succ (Nat.le_of_lt (Nat.lt_of_not_le fun z=>q (.inr z)))) hm)
theorem outer_len (l : List Int) : ∀ {b : List Int} {m : Nat},51 ≤ m → b.length ≤ m → (outerB l b).length ≤ m + l.length:=by
  induction l with
  | nil=>exact fun _ h=>h
  | cons c r ih=>exact fun {b m} hm h=>Nat.le_trans (ih (Nat.le_succ_of_le hm) (inner_len 9 hm h)) (Nat.le_of_eq (by rw [List.length_cons,Nat.succ_add]; rfl))
noncomputable def accB (xs : List Int) : List Int:=outerB (xs.take 40) []
noncomputable def beadsOf (xs : List Int) : List Int:=(accB xs).reverse
theorem acc_len (xs : List Int) : (accB xs).length ≤ 91:=Nat.le_trans (outer_len (xs.take 40) (m:=51) (Nat.le_refl _) (Nat.zero_le _)) (Nat.add_le_add_left (List.length_take_le ..) 51)
noncomputable def Grows (V : Vx) (B : List Int) : Prop:=B.length ≤ 91 ∧ ∀ b : List Int,b <+: B → V.val (200 + b.length) = intD b
theorem mem_lmap {α β : Type} {f : α → β} {l : List α} {a : α} (h : a ∈ l) : f a ∈ K.lmap f l:=K.lmap_eq f l ▸ List.mem_map_of_mem h
theorem fmod_al (z : Int) : D.int (Int.fmod z 84) ∈ AL84:=by
  have h1 : 0 ≤ Int.fmod z 84:=Int.fmod_nonneg_of_pos z (by decide)
  have h2 : Int.fmod z 84 < 84:=Int.fmod_lt_of_pos z (by decide)
  rw [← Int.toNat_of_nonneg h1] at h2 ⊢
  exact mem_lmap (f:=fun (k : Nat)=>D.int (k : Int)) (List.mem_range.mpr (Int.ofNat_lt.mp h2))
noncomputable def soB (b : List Int) : SO:=.sy 100 AL84 (.var (200 + b.length))
noncomputable def outB (z : Int) (b : List Int) : Out:=if Int.fdiv z 84 = 0 ∨ 50 ≤ b.length then .brk else .next
theorem stop_is {w : Int} (hw : w ≠ 0) (n : Nat) : stop50 n = if w = 0 ∨ 50 ≤ n then Out.brk else .next:=by
  unfold stop50
  cases q : Nat.ble 50 n with
  | true=>exact (if_pos (.inr (Nat.le_of_ble_eq_true q))).symm
  | false=>exact (if_neg fun h=>h.elim hw fun h=>nT (q.symm.trans (Nat.ble_eq_true_of_le h))).symm
theorem int_len (b : List Int) : (intD b).length = b.length:=List.length_map ..
theorem int_app (b : List Int) (z : Int) : intD b ++ [.int z] = intD (b ++ [z]):=(List.map_append (f:=D.int) (l₁:=b) (l₂:=[z])).symm
section
variable {G : Cx} {B : List Int}
theorem conv_mid (g : Grows G.V B) {b : List Int} {z : Int} (h : b ++ [Int.fmod z 84] <+: B) : CvO G.V G.V (bMid (200 + b.length) (.int (Int.fmod z 84))) (soB (b ++ [Int.fmod z 84])):=by
  have e : den G.V.val (.cat (.var (200 + b.length)) (.lit [.int (Int.fmod z 84)])) = intD (b ++ [Int.fmod z 84]):=(congrArg (· ++ [D.int (Int.fmod z 84)]) (g.2 b ((List.prefix_append _ _).trans h))).trans (int_app _ _)
  refine .sy ((g.2 _ h).trans e.symm) (fun ha x hx=>(List.mem_cons.mp (ha x hx)).elim (fun q=>q ▸ fmod_al z) id) fun _=>?_
  rw [e,int_len]
  exact Nat.le_trans h.length_le (Nat.le_trans g.1 (by decide))
theorem tabC {c : Nat} (h : (G.V.val (200 + c)).length = c) : TabOk G (Tc c):=⟨⟨zero,two h zero,zero,zero,zero⟩,fun _ _ e=>nS e,fun _ _ _ e=>nS e,fun _ _ _ e=>nS e⟩
theorem i2_turn (ko : KOk3 G) {c k w : Int} {y : D} {o0 o2 : SO} {n : Nat} (hn : n < 100) (h : (G.V.val (200 + n)).length = n) : StT G 20 bSc (bJ 2) (ρ5 c w k) [o0,bMid (200 + n) y,o2] (if w = 0 ∨ 50 ≤ n then .brk else .next) (ρ5 c w k) [o0,bMid (200 + n) y,o2]:=by
  cases w with
  | ofNat w =>
    cases w with
    | zero =>
      rw [if_pos (Or.inl (show Int.ofNat 0 = 0 from rfl))]
      exact StT.run ko (tab0 G) (i2_zero c k _ o0 o2)
    | succ m=>exact stop_is (w:=Int.ofNat (m + 1)) (fun q=>nomatch q) n ▸ StT.run ko (tabC h) (congrFun (congrFun (congrFun (congrFun (congrFun (congrFun (mapR_is i2_pos n (List.mem_range.mpr hn)) c) k) m) y) o0) o2)
  | negSucc m=>exact stop_is (w:=Int.negSucc m) (fun q=>nomatch q) n ▸ StT.run ko (tabC h) (congrFun (congrFun (congrFun (congrFun (congrFun (congrFun (mapR_is i2_neg n (List.mem_range.mpr hn)) c) k) m) y) o0) o2)
theorem inner_turn (ko : KOk3 G) (g : Grows G.V B) {b : List Int} {c z k : Int} {o0 o2 : SO} (h : b ++ [Int.fmod z 84] <+: B) : ExT G 20 bSc (sb (bO 1) 0) (ρ5 c z k) [o0,soB b,o2] (outB z b) (ρ4 c (Int.fdiv z 84)) [o0,soB (b ++ [Int.fmod z 84]),o2]:=by
  have hb : b <+: B:=(List.prefix_append _ _).trans h
  rw [b_inner]
  exact .next (StT.run ko (tab0 G) (i0_run c z k _ o0 o2)) (.next (StT.run ko (tab0 G) (i1_run c z k _ o0 o2)) (.last ((i2_turn ko (Nat.lt_of_le_of_lt (Nat.le_trans hb.length_le g.1) (by decide)) (by rw [g.2 b hb,int_len])).post .app (.cons .refl (.cons (conv_mid g h) (.cons .refl .nil))))))
theorem inner_turns (ko : KOk3 G) (g : Grows G.V B) {c : Int} {o0 o2 : SO} (l : List Int) : ∀ {z : Int} {b : List Int},innerB l.length z b <+: B →
    ∃ z',Turns G 20 bSc (nm "lap") (sb (bO 1) 0) (fun _=>True) (K.lmap (fun i=>.d (.int i)) l) (ρ4 c z) [o0,soB b,o2] .next (ρ4 c z') [o0,soB (innerB l.length z b),o2]:=by
  induction l with
  | nil=>exact fun {z b} h=>⟨z,.nil⟩
  | cons i r ih =>
    intro z b h
    have e : innerB (i :: r).length z b = _:=innerB_s r.length z b
    by_cases q : Int.fdiv z 84 = 0 ∨ 50 ≤ b.length
    · rw [if_pos q] at e
      rw [e] at h ⊢
      have t:=inner_turn ko g (c:=c) (k:=i) (o0:=o0) (o2:=o2) h
      rw [show outB z b = .brk from if_pos q] at t
      exact ⟨_,Turns.brk t⟩
    · rw [if_neg q] at e
      rw [e] at h ⊢
      have t:=inner_turn ko g (c:=c) (k:=i) (o0:=o0) (o2:=o2) ((inner_pre r.length).trans h)
      rw [show outB z b = .next from if_neg q] at t
      obtain ⟨z',t'⟩:=ih h
      exact ⟨z',Turns.next t trivial t'⟩
noncomputable def nine : List Int:=[0,1,2,3,4,5,6,7,8]
theorem iter_four (c z : Int) (o0 o1 o2 : SO) : iterOf (runF 20 T0) bSc (ρ4 c z) (sa (bO 1) 1) [o0,o1,o2] = some (.range 0 9,[o0,o1,o2]):=by kernel_rfl
theorem outer_turn (ko : KOk3 G) (g : Grows G.V B) {c : Int} {b : List Int} {o0 o2 : SO} (h : innerB 9 (startB c) b <+: B) : ExT G 20 bSc (sb (bS 1) 0) (ρ3 c) [o0,soB b,o2] .next ρ2 [o0,soB (innerB 9 (startB c) b),o2]:=by
  have s0 : StT G 20 bSc (bO 0) (ρ3 c) [o0,soB b,o2] .next (ρ4 c (startB c)) [o0,soB b,o2]:=by
    cases c with
    | ofNat c=>exact StT.run ko (tab0 G) (o0_pos c _ _ _)
    | negSucc c=>exact StT.run ko (tab0 G) (o0_neg c _ _ _)
  obtain ⟨z',t⟩:=inner_turns ko g (c:=c) (o0:=o0) (o2:=o2) nine h
  rw [b_outer]
  exact .next s0 (.last ((StT.forP ko.toKOk (rec0 ko 20).ev (by kernel_rfl) (iter_four c _ o0 _ o2) t).post .app .refl))
theorem outer_turns (ko : KOk3 G) (g : Grows G.V B) {o0 o2 : SO} {S : Sto → Prop} (hS : ∀ o1,S [o0,o1,o2]) (l : List Int) : ∀ {b : List Int},outerB l b <+: B → Turns G 20 bSc (nm "cell") (sb (bS 1) 0) S (K.lmap .d (intD l)) ρ2 [o0,soB b,o2] .next ρ2 [o0,soB (outerB l b),o2]:=by
  induction l with
  | nil=>exact fun _=>.nil
  | cons i r ih=>exact fun h=>Turns.next (outer_turn ko g ((outer_pre r).trans h)) (hS _) (ih h)
noncomputable def ρ1 : Rho:=[(nm "script",.ref 0)]
noncomputable def itB : Expr:=sa (bS 1) 1
theorem b_iter : itB = .Subscript (pa itB 0) (.Slice none (some (pa (pa itB 1) 0)) none (pa itB 1).pos) itB.pos:=by kernel_rfl
theorem b0_run : exS (runF 20 T0) bSc (bS 0) ρ1 [.any 0] = some (.next,ρ2,[.any 0,.dl []]):=by kernel_rfl
theorem b2_run (q : Nat) (o2 : SO) : exS (runF 20 T0) bSc (bS 2) ρ2 [.any 0,.sy 100 AL84 (.var q),o2] = some (.ret (.ref 3),ρ2,[.any 0,.sy 100 AL84 (.var q),o2,.sy 100 AL84 (.rev (.var q))]):=by kernel_rfl
theorem sub_v (o1 : SO) : (runF 20 T0).ev bSc (pa itB 0) ρ2 [.any 0,o1] = some (.ref 0,[.any 0,o1]):=by kernel_rfl
theorem sub_h (o1 : SO) : (runF 20 T0).ev bSc (pa (pa itB 1) 0) ρ2 [.any 0,o1] = some (.d (.int 40),[.any 0,o1]):=by kernel_rfl
theorem b_gc (q : Nat) (xs : List D) : gc 1 (.ref 3) [.any 0,.sy 100 AL84 (.var q),.sy 63 xs (.take 40 (.var 199)),.sy 100 AL84 (.rev (.var q))] = some (.ref 1,[.any 0,.sy 100 AL84 (.rev (.var q))]):=by kernel_rfl
structure BeadsV (V : Vx) (xs : List Int) : Prop where
  len : xs.length ≤ 63
  obj : ∃ ws : List Value,V.obj 0 = listOf ws.toArray 0 ∧ RelDs [] (intD xs) ws
  scr : V.val 199 = intD xs
  grows : Grows V (accB xs)
  bv : V.bv 0 = beadsOf xs
variable {xs : List Int} (v : BeadsV G.V xs)
include v
theorem cv_script : CvO G.V G.V (.any 0) (.sy 63 (intD xs) (.var 199)):=fun k ob e=>by
  obtain ⟨ws,h,r⟩:=v.obj
  refine ⟨ws,0,Eq.trans (show ob = G.V.obj 0 from e) h,?_⟩
  unfold SyR
  rw [show den G.V.val (.var 199) = intD xs from v.scr,int_len]
  exact ⟨fun _ h=>h,v.len,RelDs.mono (fun _ h=>(List.not_mem_nil h).elim) r⟩
theorem beads_body (ko : KOk3 G) : ExT G 20 bSc (bodyOf (stN 138)) ρ1 [.any 0] (.ret (.ref 3)) ρ2 [.any 0,soB (accB xs),.sy 63 (intD xs) (.take 40 (.var 199)),.sy 100 AL84 (.rev (.var (200 + (accB xs).length)))]:=by
  have t0:=tab0 G
  have hden : den G.V.val (.take 40 (.var 199)) = intD (xs.take 40):=(congrArg (List.take 40) v.scr).trans (List.map_take ..).symm
  rw [b_shape]
  refine .next (StT.conv (StT.run ko t0 b0_run) (σ'':=[.any 0,soB []]) (.cons .refl (.one fun k ob h=>LsR.mono h fun vs r=>?_))) (.next (StT.for (by kernel_rfl) (by kernel_rfl) (GoT.list (M:=True) (i:=2) (o:=.sy 63 (intD xs) (.take 40 (.var 199))) (items:=K.lmap .d (intD (xs.take 40))) ?_ rfl (fun _ _ _=>trivial) (hden ▸ fun _ _ h=>LsR.mono h fun vs r=>?_) fun _=>?_) fun _=>outer_turns ko v.grows (fun _=>rfl) (xs.take 40) (List.prefix_refl _)) (.last (StT.run ko t0 (b2_run _ _))))
  · have e : den G.V.val (.var (200 + ([] : List Int).length)) = []:=v.grows.2 [] List.nil_prefix
    unfold SyR
    rw [e]
    exact ⟨zero,Nat.zero_le _,r⟩
  · show EvT _ _ _ itB _ _ _ _
    rw [b_iter]
    exact EvT.slice (EvT.run ko t0 (sub_v _)) .none (.some (EvT.run ko t0 (sub_h _))) .none (SlT.told (o₀:=.any 0) rfl (cv_script v) rfl)
  · exact relVs_ofD r.2.2
  · rw [K.lmap_eq,List.length_map,int_len]
    exact Nat.le_trans (List.length_take_le ..) (by decide)
theorem beads_ok (ko : KOk3 G) : FnT G 21 897 [.ref 0] [.any 0] (.ref 1) [.any 0,.bd 0]:=by
  refine FnT.conv (FnT.def' ko (st:=stN 138) (ds:=[]) rfl (by kernel_rfl) (by kernel_rfl) (beads_body v ko) rfl (b_gc _ _)) (.one .refl) (.cons .refl (.one fun k ob h=>LsR.mono h fun vs r=>?_))
  have e : den G.V.val (.rev (.var (200 + (accB xs).length))) = intD (beadsOf xs):=(congrArg List.reverse (v.grows.2 _ (List.prefix_refl _))).trans (List.map_reverse ..).symm
  rw [v.bv]
  exact ⟨Nat.le_trans (Nat.le_of_eq (List.length_reverse ..)) (Nat.le_trans (acc_len xs) (by decide)),(show intD (beadsOf xs) = (beadsOf xs).map .int from rfl) ▸ e ▸ r.2.2⟩
end
noncomputable def tabF (k a : Nat) (z : Bool) (F : Fn) : Tab:={ T0 with need:=k,call:=fun b=>bI (Nat.beq b a) (some (z,F)) none }
section
variable {G : Cx} {n : Nat} {sc sc' : Scope} {x : Str} {elt it : Expr} {ifs : List Expr} {px pos : Pos} {ρ : Rho} {S : Sto → Prop} {σ σ₁ σ' : Sto}
theorem tab1 {k a : Nat} {F : Fn} (h : FnOk G k a F) : TabOk G (tabF k a false F):=⟨FactsOk.nil G.V [],fun b q e g h0=>by
    have e : bI (Nat.beq b a) (some (false,F)) none = some q:=e
    cases hb : Nat.beq b a with
    | false=>rw [hb] at e; exact nS e
    | true =>
      rw [hb] at e
      cases e
      cases h0 rfl
      exact Nat.eq_of_beq_eq_true hb ▸ h,fun _ _ _ e=>nS e,fun _ _ _ e=>nS e⟩
noncomputable def Td (ds : List Dw) : Tab:=tabF 21 904 false (Fdraw ds)
theorem tabDw (ko : KOk3 G) {d : Dw} (h : DrawOk G.V d) : TabOk G (Td [d]):=tab1 ((Fdraw_ok ko (two h zero)).le (by decide))
theorem Elems.nil : Elems G n sc x ifs elt ρ S [] σ [] σ:=⟨rfl,rfl⟩
theorem Elems.cons {v : SV} {r : Option SV} {items ys : List SV} (h : StepT G n sc ifs elt ((x,v) :: ρ) σ r σ₁) (hs : S σ₁) (t : Elems G n sc x ifs elt ρ S items σ₁ ys σ') : Elems G n sc x ifs elt ρ S (v :: items) σ (optC r ys) σ':=⟨r,σ₁,ys,h,hs,t,rfl⟩
theorem StepT.ev {y : SV} (h : EvT G n sc elt ρ σ y σ') : StepT G n sc [] elt ρ σ (some y) σ':=.take (fun c env cm W E Q s hA X k=>wpAny_pure (k (tk:=s.toks) X (Kn.Le.refl _))) h
theorem ListIs.sy {k : Nat} {al xs : List D} {l : LX} (h1 : den G.V.val l = xs) (h2 : ∀ a ∈ xs,a ∈ al) (h3 : xs.length ≤ k) : ListIs G (xs.map .d) (.sy k al l):=fun _ ws m r=>⟨ws,m,rfl,by unfold SyR; rw [h1]; exact ⟨h2,h3,relVs_toD xs r⟩⟩
noncomputable def itAt (al : List D) (m : Int) : D:=(K.nth al m.toNat).getD .none
noncomputable def drawn (bv : Nat → List Int) (al : List D) : Nat → Nat → List D:=@Nat.rec (fun _=>Nat → List D) (fun _=>[]) fun _ ih q=>itAt al (drawV (bv q) al.length) :: ih (q + 1)
theorem draw_range {xs : List Int} {m : Nat} (h : 0 < m) : ∃ v : Nat,drawV xs m = v ∧ v < m:=by
  have h' : (0 : Int) < m:=Int.ofNat_lt.mpr h
  have k : 0 ≤ drawV xs m ∧ drawV xs m < m:=by
    unfold drawV
    cases xs.getLast? with
    | none=>exact ⟨Int.le_refl _,h'⟩
    | some y=>exact ⟨Int.fmod_nonneg_of_pos _ h',Int.fmod_lt_of_pos _ h'⟩
  exact ⟨(drawV xs m).toNat,(Int.toNat_of_nonneg k.1).symm,(Int.toNat_lt k.1).mpr k.2⟩
theorem itAt_mem {al : List D} {xs : List Int} (h : 0 < al.length) : itAt al (drawV xs al.length) ∈ al:=by
  obtain ⟨v,e,lt⟩:=draw_range (xs:=xs) h
  rw [e]
  show (K.nth al v).getD .none ∈ al
  rw [nth_eq,List.getElem?_eq_getElem lt]
  exact List.getElem_mem _
theorem drawn_mem {bv : Nat → List Int} {al : List D} (h : 0 < al.length) (n : Nat) : ∀ q,∀ x ∈ drawn bv al n q,x ∈ al:=by
  induction n with
  | zero=>exact fun _=>zero
  | succ n ih=>exact fun q=>two (itAt_mem h) (ih (q + 1))
theorem drawn_len {bv : Nat → List Int} {al : List D} (n : Nat) : ∀ q,(drawn bv al n q).length = n:=by
  induction n with
  | zero=>exact fun _=>rfl
  | succ n ih=>exact fun q=>congrArg (· + 1) (ih (q + 1))
variable {st : Nat → Sto} {al : List D} {q0 : Nat}
variable {m : Nat}
theorem draw_elems (hS : ∀ σ,S σ) (h0 : 0 < al.length) (hb : ∀ k,k < m → G.V.bv (q0 + k + 1) = (G.V.bv (q0 + k)).dropLast)
    (el : ∀ k,k < m → ∀ v,v < al.length → DrawOk G.V (q0 + k,(al.length : Int),(v : Int),q0 + k + 1) → StepT G n sc' [] elt ((x,.d (.int (k : Int))) :: ρ) (st (q0 + k)) (some (.d (itAt al v))) (st (q0 + k + 1)))
    (N : Nat) : ∀ k,k + N ≤ m → Elems G n sc' x [] elt ρ S (ints' k N) (st (q0 + k)) ((drawn G.V.bv al N (q0 + k)).map .d) (st (q0 + k + N)):=by
  induction N with
  | zero=>exact fun _ _=>.nil
  | succ N ih =>
    intro k hk
    have hk' : k < m:=Nat.lt_of_lt_of_le (Nat.lt_add_of_pos_right (Nat.succ_pos N)) hk
    obtain ⟨v,e,lt⟩:=draw_range (xs:=G.V.bv (q0 + k)) h0
    have t:=ih (k + 1) (by rw [Nat.succ_add]; exact hk)
    rw [show ints' k (N + 1) = .d (.int (k : Int)) :: ints' (k + 1) N from rfl,show q0 + k + (N + 1) = q0 + (k + 1) + N by rw [Nat.add_assoc,Nat.add_assoc,Nat.succ_add]; rfl]
    show Elems _ _ _ _ _ _ _ _ _ _ (.d (itAt al (drawV (G.V.bv (q0 + k)) al.length)) :: (drawn G.V.bv al N (q0 + k + 1)).map .d) _
    rw [e]
    exact Elems.cons (el k hk' v lt ⟨Int.ofNat_lt.mpr h0,hb k hk',e.symm⟩) (hS _) t
theorem draw_comp (ko : KOk3 G) {N n' iv : Nat} (s : SrcT G n sc ρ it σ (.range 0 N) (st q0)) (hn : N ≤ m) (hn' : N ≤ n') (hcs : compSc sc sc' x ρ = true) (h0 : 0 < al.length) (hb : ∀ k,k < m → G.V.bv (q0 + k + 1) = (G.V.bv (q0 + k)).dropLast)
    (el : ∀ k,k < m → ∀ v,v < al.length → DrawOk G.V (q0 + k,(al.length : Int),(v : Int),q0 + k + 1) → StepT G n sc' [] elt ((x,.d (.int (k : Int))) :: ρ) (st (q0 + k)) (some (.d (itAt al v))) (st (q0 + k + 1)))
    (hv : G.V.val iv = drawn G.V.bv al N q0) : CompB G n sc elt [⟨.Name x px,it,[],0⟩] sc' pos ρ σ (.ref (st (q0 + N)).length) (st (q0 + N) ++ [.sy n' al (.var iv)]):=by
  refine comp_both ko.cls (compSc_i hcs) s.kn s.go (fun _=>?_) fun _=>.sy hv (drawn_mem h0 N q0) ((drawn_len N q0).symm ▸ hn')
  rw [show (Src.range 0 N).itemsD G.V = ints' 0 N from range_ints N]
  exact draw_elems (fun _=>trivial) h0 hb el N 0 ((Nat.zero_add N).symm ▸ hn)
end
noncomputable def lawSc : Scope:=scOf (stN 152)
noncomputable def lawS (i : Nat) : Stmt:=stAt (bodyOf (stN 152)) i
noncomputable def sD (x : String) : D:=.str (Str.ofString x)
noncomputable def tD (a b : Int) : D:=.tup [.int a,.int b]
noncomputable def srt (w : Nat) : D:=(K.nth [sD "logical",sD "integer",sD "double",sD "character"] w).getD (sD "factor")
noncomputable def mnu (w : Nat) : List D:=(K.nth [[.int 1,.int 0,.none],[.int 0,.int 2,.int 1,.none,.int (-1)],[tD 1 1,tD 0 1,tD 1 2,.none,tD 0 0,tD 1 0,tD 2 1],[sD "1",sD "b",sD "0.5",.none,sD "TRUE",sD "0"],[sD "b",sD "1",sD "0.5",.none]] w).getD []
noncomputable def ρa (s : D) : Rho:=ρ2 ++ [(nm "sort",.d s),(nm "menu",.ref 2)]
noncomputable def ρb (s : D) : Rho:=ρa s ++ [(nm "items",.ref 3)]
noncomputable def ρc (s t : D) : Rho:=ρb s ++ [(nm "table_sort",.d t),(nm "table_menu",.ref 4)]
noncomputable def ρd (s t : D) : Rho:=ρc s t ++ [(nm "table_items",.ref 5)]
noncomputable def r5 : List Nat:=[0,1,2,3,4]
noncomputable def r6 : List Nat:=[0,1,2,3,4,5]
theorem mem5 {w : Nat} (h : w < 5) : w ∈ r5:=List.mem_range.mpr h
theorem mem6 {w : Nat} (h : w < 6) : w ∈ r6:=List.mem_range.mpr h
noncomputable def idx3 : List (Nat × Nat × Nat):=r5.flatMap fun w=>(List.range 7).flatMap fun k=>(List.range (mnu w).length).map fun v=>(w,k,v)
theorem mem_idx3 {w k v : Nat} (hw : w < 5) (hk : k < 7) (hv : v < (mnu w).length) : (w,k,v) ∈ idx3:=List.mem_flatMap.mpr ⟨w,mem5 hw,List.mem_flatMap.mpr ⟨k,List.mem_range.mpr hk,List.mem_map.mpr ⟨v,List.mem_range.mpr hv,rfl⟩⟩⟩
theorem mnu_pos {w : Nat} (h : w < 5) : 0 < (mnu w).length ∧ (mnu w).length ≤ 7:=by
  have : ∀ w ∈ r5,0 < (mnu w).length ∧ (mnu w).length ≤ 7:=by decide
  exact this w (mem5 h)
noncomputable abbrev lcOf (x : Str) (e : Expr) : Expr:=.ListComp (pa e 0) [⟨.Name x (pa e 1).pos,pa e 2,[],0⟩] (lcSc e) e.pos
noncomputable def lE (i : Nat) : Expr:=sa (lawS i) 0
theorem l2_shape : lawS 2 = .Assign [.Name (nm "items") (sa (lawS 2) 1).pos] (lcOf (nm "lap") (lE 2)) (lawS 2).pos:=by kernel_rfl
theorem l4_shape : lawS 4 = .Assign [.Name (nm "table_items") (sa (lawS 4) 1).pos] (lcOf (nm "lap") (lE 4)) (lawS 4).pos:=by kernel_rfl
theorem l1_run : K.lmap (fun (w : Nat)=>fun (o0 : SO)=>exS (runF 40 (Td [(0,5,(w : Int),1)])) lawSc (lawS 1) ρ2 [o0,.bd 0]) r5 =
    mapR (fun (w : Nat)=>fun (o0 : SO)=>some (.next,ρa (srt w),[o0,.bd 1,.dl (mnu w)])) r5:=by kernel_rfl
theorem l2_iter : K.lmap (fun (n : Nat)=>fun (s : D) (o0 o2 : SO)=>iterOf (runF 40 (Td [(1,6,(n : Int),10)])) lawSc (ρa s) (pa (lE 2) 2) [o0,.bd 1,o2]) r6 =
    mapR (fun (n : Nat)=>fun (s : D) (o0 o2 : SO)=>some (.range 0 n,[o0,.bd 10,o2])) r6:=by kernel_rfl
theorem l3_run : K.lmap (fun (w : Nat)=>fun (s : D) (o0 o2 o3 : SO)=>exS (runF 40 (Td [(20,5,(w : Int),21)])) lawSc (lawS 3) (ρb s) [o0,.bd 20,o2,o3]) r5 =
    mapR (fun (w : Nat)=>fun (s : D) (o0 o2 o3 : SO)=>some (.next,ρc s (srt w),[o0,.bd 21,o2,o3,.dl (mnu w)])) r5:=by kernel_rfl
theorem l4_iter : K.lmap (fun (n : Nat)=>fun (s t : D) (o0 o2 o3 o4 : SO)=>iterOf (runF 40 (Td [(21,6,(n : Int),30)])) lawSc (ρc s t) (pa (lE 4) 2) [o0,.bd 21,o2,o3,o4]) r6 =
    mapR (fun (n : Nat)=>fun (s t : D) (o0 o2 o3 o4 : SO)=>some (.range 0 n,[o0,.bd 30,o2,o3,o4])) r6:=by kernel_rfl
theorem l2_elt : K.lmap (fun (i : Nat × Nat × Nat)=>fun (s : D) (o0 : SO) =>
      (runF 40 (Td [(10 + i.2.1,((mnu i.1).length : Int),(i.2.2 : Int),10 + i.2.1 + 1)])).ev (lcSc (lE 2)) (pa (lE 2) 0) ((nm "lap",.d (.int (i.2.1 : Int))) :: ρa s) [o0,.bd (10 + i.2.1),.dl (mnu i.1)]) idx3 =
    mapR (fun (i : Nat × Nat × Nat)=>fun (s : D) (o0 : SO)=>some (.d (itAt (mnu i.1) i.2.2),[o0,.bd (10 + i.2.1 + 1),.dl (mnu i.1)])) idx3:=by kernel_rfl
theorem l4_elt : K.lmap (fun (i : Nat × Nat × Nat)=>fun (s t : D) (o0 o2 o3 : SO) =>
      (runF 40 (Td [(30 + i.2.1,((mnu i.1).length : Int),(i.2.2 : Int),30 + i.2.1 + 1)])).ev (lcSc (lE 4)) (pa (lE 4) 0) ((nm "lap",.d (.int (i.2.1 : Int))) :: ρc s t) [o0,.bd (30 + i.2.1),o2,o3,.dl (mnu i.1)]) idx3 =
    mapR (fun (i : Nat × Nat × Nat)=>fun (s t : D) (o0 o2 o3 : SO)=>some (.d (itAt (mnu i.1) i.2.2),[o0,.bd (30 + i.2.1 + 1),o2,o3,.dl (mnu i.1)])) idx3:=by kernel_rfl
structure FrontV (V : Vx) (xs : List Int) (w1 n1 w2 n2 : Nat) : Prop where
  beads : BeadsV V xs
  hw1 : w1 < 5
  hn1 : n1 < 6
  hw2 : w2 < 5
  hn2 : n2 < 6
  d1 : DrawOk V (0,5,(w1 : Int),1)
  d2 : DrawOk V (1,6,(n1 : Int),10)
  b1 : ∀ k,k < 7 → V.bv (10 + k + 1) = (V.bv (10 + k)).dropLast
  e1 : V.bv 20 = V.bv (10 + n1)
  v0 : V.val 0 = drawn V.bv (mnu w1) n1 10
  d3 : DrawOk V (20,5,(w2 : Int),21)
  d4 : DrawOk V (21,6,(n2 : Int),30)
  b2 : ∀ k,k < 7 → V.bv (30 + k + 1) = (V.bv (30 + k)).dropLast
  e2 : V.bv 40 = V.bv (30 + n2)
  v1 : V.val 1 = drawn V.bv (mnu w2) n2 30
theorem sameS_eq {x : Sto} : ∀ {y : Sto},sameS x y = true → K.len x = K.len y → x = y:=fun {y} h hl=>by
  rw [K.len_eq,K.len_eq] at hl
  exact (sameS_take x y h).symm.trans (hl ▸ List.take_length)
theorem memo_ok {G : Cx} {n a : Nat} {es : List Memo} (h : ∀ e ∈ es,FnT G n a e.args e.st e.val e.out) : FnOk G n a (memo es):=fun args σ=>.om fun e he=>by
  obtain ⟨hm,he⟩:=Sat.findB es he
  have h2:=bA_i (bA_i he).2
  rw [← allB_eq sameV_eq _ _ (bA_i he).1,← sameS_eq h2.1 (Nat.eq_of_beq_eq_true h2.2)]
  exact h e hm
noncomputable def Tb : Tab:=tabF 21 897 false (memo [⟨[.ref 0],[.any 0],.ref 1,[.any 0,.bd 0]⟩])
theorem l0_run : exS (runF 40 Tb) lawSc (lawS 0) ρ1 [.any 0] = some (.next,ρ2,[.any 0,.bd 0]):=by kernel_rfl
theorem law_body : bodyOf (stN 152) = lawS 0 :: lawS 1 :: lawS 2 :: lawS 3 :: lawS 4 :: (bodyOf (stN 152)).drop 5:=by kernel_rfl
noncomputable def σ5 (w1 w2 : Nat) : Sto:=[.any 0,.bd 40,.dl (mnu w1),.sy 5 (mnu w1) (.var 0),.dl (mnu w2),.sy 5 (mnu w2) (.var 1)]
section
variable {G : Cx} {xs : List Int} {w1 n1 w2 n2 : Nat} (ko : KOk3 G) (v : FrontV G.V xs w1 n1 w2 n2)
include ko v
theorem front2 {s : D} : StT G 40 lawSc (lawS 2) (ρa s) [.any 0,.bd 1,.dl (mnu w1)] .next (ρb s) [.any 0,.bd 20,.dl (mnu w1),.sy 5 (mnu w1) (.var 0)]:=by
  have hi:=congrFun (congrFun (congrFun (mapR_is l2_iter n1 (mem6 v.hn1)) s) (.any 0)) (.dl (mnu w1))
  have dc : CompB G 40 lawSc _ [⟨.Name (nm "lap") (pa (lE 2) 1).pos,pa (lE 2) 2,[],0⟩] (lcSc (lE 2)) (lE 2).pos (ρa s) _ _ _:=draw_comp (st:=fun q=>[.any 0,.bd q,.dl (mnu w1)]) (n':=5) ko (iterOf_s ko.toKOk (run_ok ko 40 _ (tabDw ko v.d2)).ev _ hi) (Nat.le_trans (Nat.le_of_lt v.hn1) (by decide)) (Nat.le_of_lt_succ v.hn1) (by kernel_rfl) (mnu_pos v.hw1).1 v.b1
    (fun k hk u hu d=>StepT.ev (EvT.run ko (tabDw ko d) (congrFun (congrFun (mapR_is l2_elt (w1,k,u) (mem_idx3 v.hw1 hk hu)) s) (.any 0)))) v.v0
  rw [l2_shape]
  exact StT.conv (StT.assignC dc.1 dc.2 (by kernel_rfl)) (.cons .refl (.cons (.bd v.e1) (.cons .refl (.one .refl))))
theorem front4 {s t : D} {o2 o3 : SO} : StT G 40 lawSc (lawS 4) (ρc s t) [.any 0,.bd 21,o2,o3,.dl (mnu w2)] .next (ρd s t) [.any 0,.bd 40,o2,o3,.dl (mnu w2),.sy 5 (mnu w2) (.var 1)]:=by
  have hi:=congrFun (congrFun (congrFun (congrFun (congrFun (congrFun (mapR_is l4_iter n2 (mem6 v.hn2)) s) t) (.any 0)) o2) o3) (.dl (mnu w2))
  have dc : CompB G 40 lawSc _ [⟨.Name (nm "lap") (pa (lE 4) 1).pos,pa (lE 4) 2,[],0⟩] (lcSc (lE 4)) (lE 4).pos (ρc s t) _ _ _:=draw_comp (st:=fun q=>[.any 0,.bd q,o2,o3,.dl (mnu w2)]) (n':=5) ko (iterOf_s ko.toKOk (run_ok ko 40 _ (tabDw ko v.d4)).ev _ hi) (Nat.le_trans (Nat.le_of_lt v.hn2) (by decide)) (Nat.le_of_lt_succ v.hn2) (by kernel_rfl) (mnu_pos v.hw2).1 v.b2
    (fun k hk u hu d=>StepT.ev (EvT.run ko (tabDw ko d) (congrFun (congrFun (congrFun (congrFun (congrFun (mapR_is l4_elt (w2,k,u) (mem_idx3 v.hw2 hk hu)) s) t) (.any 0)) o2) o3))) v.v1
  rw [l4_shape]
  exact StT.conv (StT.assignC dc.1 dc.2 (by kernel_rfl)) (.cons .refl (.cons (.bd v.e2) (.cons .refl (.cons .refl (.cons .refl (.one .refl))))))
theorem front {P : List Stmt → Rho → Sto → Prop} (hc : ∀ {st r ρ σ ρ₁ σ₁},StT G 40 lawSc st ρ σ .next ρ₁ σ₁ → P r ρ₁ σ₁ → P (st :: r) ρ σ) (h : P ((bodyOf (stN 152)).drop 5) (ρd (srt w1) (srt w2)) (σ5 w1 w2)) : P (bodyOf (stN 152)) ρ1 [.any 0]:=by
  rw [law_body]
  exact hc (StT.run ko (tab1 (memo_ok (two (beads_ok v.beads ko) zero))) l0_run) (hc (StT.run ko (tabDw ko v.d1) (congrFun (mapR_is l1_run w1 (mem5 v.hw1)) (.any 0))) (hc (front2 ko v)
    (hc (StT.run ko (tabDw ko v.d3) (congrFun (congrFun (congrFun (congrFun (mapR_is l3_run w2 (mem5 v.hw2)) (srt w1)) (.any 0)) (.dl (mnu w1))) (.sy 5 (mnu w1) (.var 0)))) (hc (front4 ko v) h))))
end
noncomputable def less (B : List Int) (c : Nat) : List Int:=B.take (B.length - c)
theorem less_drop (B : List Int) (c : Nat) : (less B c).dropLast = less B (c + 1):=by
  unfold less
  rw [List.dropLast_eq_take,List.take_take,List.length_take,Nat.min_eq_left (Nat.sub_le _ _),Nat.min_eq_left (Nat.sub_le _ _)]
  rfl
noncomputable def many1 (B : List Int) : Nat:=(drawV (less B 1) 6).toNat
noncomputable def kind1 (B : List Int) : Nat:=(drawV (less B 0) 5).toNat
noncomputable def many2 (B : List Int) : Nat:=(drawV (less B (2 + many1 B + 1)) 6).toNat
noncomputable def kind2 (B : List Int) : Nat:=(drawV (less B (2 + many1 B)) 5).toNat
noncomputable def cnt (n m q : Nat) : Nat:=(K.nth [0,2,2 + n,4 + n,4 + n + m] (q / 10)).getD 0 + q % 10
noncomputable def bvOf (B : List Int) (q : Nat) : List Int:=less B (cnt (many1 B) (many2 B) q)
noncomputable def valOf (xs : List Int) (i : Nat) : List D :=
  bI (Nat.beq i 0) (drawn (bvOf (beadsOf xs)) (mnu (kind1 (beadsOf xs))) (many1 (beadsOf xs)) 10)
  (bI (Nat.beq i 1) (drawn (bvOf (beadsOf xs)) (mnu (kind2 (beadsOf xs))) (many2 (beadsOf xs)) 30)
  (bI (Nat.beq i 199) (intD xs) (intD ((accB xs).take (i - 200)))))
noncomputable def vOf (w : World) (xs : List Int) (o : Obj) : Vx:=⟨w,valOf xs,fun _=>[],bvOf (beadsOf xs),fun _=>o,fun _=>.dl []⟩
theorem cnt_at {n m : Nat} (j : Nat) {k : Nat} (h : k < 10) : cnt n m (10 * j + k) = (K.nth [0,2,2 + n,4 + n,4 + n + m] j).getD 0 + k:=by
  unfold cnt
  rw [Nat.mul_add_div (by decide),Nat.div_eq_of_lt h,Nat.mul_add_mod,Nat.mod_eq_of_lt h]
  rfl
theorem toNat_draw {xs : List Int} {m : Nat} (h : 0 < m) : ((drawV xs m).toNat : Int) = drawV xs m ∧ (drawV xs m).toNat < m:=by
  obtain ⟨v,e,lt⟩:=draw_range (xs:=xs) h
  rw [e]
  exact ⟨rfl,lt⟩
theorem bv_next {B : List Int} (j : Nat) {k : Nat} (h : k < 9) : bvOf B (10 * j + k + 1) = (bvOf B (10 * j + k)).dropLast:=by
  unfold bvOf
  rw [less_drop,Nat.add_assoc,cnt_at j (Nat.succ_lt_succ h),cnt_at j (Nat.lt_succ_of_lt h)]
  rfl
theorem bv_like {B : List Int} (i j : Nat) {k l : Nat} (hk : k < 10) (hl : l < 10) (e : (K.nth [0,2,2 + many1 B,4 + many1 B,4 + many1 B + many2 B] i).getD 0 + k = (K.nth [0,2,2 + many1 B,4 + many1 B,4 + many1 B + many2 B] j).getD 0 + l) : bvOf B (10 * i + k) = bvOf B (10 * j + l):=by
  unfold bvOf
  rw [cnt_at i hk,cnt_at j hl,e]
theorem beq_ne {a b : Nat} (h : b < a) : Nat.beq a b = false:=by
  cases q : Nat.beq a b with
  | false=>rfl
  | true=>exact absurd (Nat.eq_of_beq_eq_true q) (Nat.ne_of_gt h)
theorem val_acc (xs : List Int) (k : Nat) : valOf xs (200 + k) = intD ((accB xs).take k):=by
  have h : 199 < 200 + k:=Nat.lt_of_lt_of_le (by decide) (Nat.le_add_right 200 k)
  unfold valOf
  rw [beq_ne (Nat.lt_trans (by decide) h),beq_ne (Nat.lt_trans (by decide) h),beq_ne h,Nat.add_sub_cancel_left]
  rfl
theorem drawOk_of {V : Vx} {q q' m v : Nat} {ys : List Int} (hm : 0 < m) (h1 : V.bv q = ys) (h2 : V.bv q' = (V.bv q).dropLast) (hv : v = (drawV ys m).toNat) : DrawOk V (q,(m : Int),(v : Int),q'):=⟨Int.ofNat_lt.mpr hm,h2,hv ▸ h1 ▸ (toNat_draw hm).1⟩
theorem frontV (w : World) (xs : List Int) (o : Obj) (hl : xs.length ≤ 63) (ho : IsScript xs o) : FrontV (vOf w xs o) xs (kind1 (beadsOf xs)) (many1 (beadsOf xs)) (kind2 (beadsOf xs)) (many2 (beadsOf xs)):=by
  have hn1 : many1 (beadsOf xs) < 6:=(toNat_draw (m:=6) (by decide)).2
  have hn2 : many2 (beadsOf xs) < 6:=(toNat_draw (m:=6) (by decide)).2
  refine ⟨⟨hl,ho,rfl,⟨acc_len xs,fun b hb=>?_⟩,List.take_length⟩,(toNat_draw (m:=5) (by decide)).2,hn1,(toNat_draw (m:=5) (by decide)).2,hn2,drawOk_of (m:=5) (ys:=less (beadsOf xs) 0) (by decide) rfl (bv_next 0 (k:=0) (by decide)) rfl,drawOk_of (m:=6) (ys:=less (beadsOf xs) 1) (by decide) rfl ((bv_like 1 0 (k:=0) (l:=2) (by decide) (by decide) rfl).trans (bv_next 0 (k:=1) (by decide))) rfl,
    fun k hk=>bv_next 1 (Nat.lt_trans hk (by decide)),bv_like 2 1 (k:=0) (by decide) (Nat.lt_trans hn1 (by decide)) rfl,rfl,
    drawOk_of (m:=5) (ys:=less (beadsOf xs) (2 + many1 (beadsOf xs))) (by decide) rfl (bv_next 2 (k:=0) (by decide)) rfl,drawOk_of (m:=6) (ys:=less (beadsOf xs) (2 + many1 (beadsOf xs) + 1)) (by decide) rfl ((bv_like 3 2 (k:=0) (l:=2) (by decide) (by decide) ?_).trans (bv_next 2 (k:=1) (by decide))) rfl,
    fun k hk=>bv_next 3 (Nat.lt_trans hk (by decide)),bv_like 4 3 (k:=0) (by decide) (Nat.lt_trans hn2 (by decide)) rfl,rfl⟩
  · exact (val_acc xs b.length).trans (congrArg intD (List.prefix_iff_eq_take.mp hb).symm)
  · show 4 + many1 (beadsOf xs) = 2 + many1 (beadsOf xs) + 2
    rw [Nat.add_right_comm]
theorem KOk3.vx {G : Cx} (ko : KOk3 G) (V : Vx) : KOk3 (G.vx V):=⟨⟨ko.attr,ko.glob,ko.cls,ko.meths,ko.keep,ko.made⟩,ko.defs⟩
noncomputable def TF (F : Facts) : Tab:={ T0 with F:=F }
theorem tabFk {G : Cx} {F : Facts} (h : FactsOk G.V F) : TabOk G (TF F):=⟨h,fun _ _ e=>nS e,fun _ _ _ e=>nS e,fun _ _ _ e=>nS e⟩
theorem factAt {V : Vx} {l : LX} {k : Nat} {a : D} (h : (den V.val l)[k]? = some a) : FactsOk V { F0 with ats:=[(l,k,a)] }:=⟨zero,zero,two h zero,zero,zero⟩
theorem factGet {V : Vx} {x : DX} {s : Str} {r : Option D} (h : lk s (denX V x) = r) : FactsOk V { F0 with gets:=[(x,s,r)] }:=⟨zero,zero,zero,zero,two h zero⟩
theorem factIdx {V : Vx} {l : LX} {x : D} {r : Option Nat} (h : IdxOk x (den V.val l) r) : FactsOk V { F0 with idx:=[(l,x,r)] }:=⟨zero,zero,zero,two h zero,zero⟩
theorem bA_to {a b : Bool} (h : a = true) (k : b = true) : bA a b = true:=by rw [h]; exact k
theorem findB_one {α : Type} {f : α → Bool} {a : α} (h : f a = true) : findB f [a] = some a:=by
  unfold findB
  show bI (f a) (some a) none = _
  rw [h]
  rfl
theorem getX_self {x : DX} {s : Str} {r : Option D} (h : sameDX x x = true) : getX x s [(x,s,r)] = some r:=by
  unfold getX
  rw [findB_one (f:=fun p=>bA (seq p.2.1 s) (sameDX p.1 x)) (a:=(x,s,r)) (bA_to (seq_self s) h)]
  rfl
theorem idxX_self {l : LX} {x : D} {r : Option Nat} (h : sameX l l = true) : idxX l x [(l,x,r)] = some r:=by
  unfold idxX
  rw [findB_one (f:=fun p=>bA (sameD p.2.1 x) (sameX p.1 l)) (a:=(l,x,r)) (bA_to (sameD_self x) h)]
  rfl
theorem aO_to {γ : Type} {σ : Sto} {i : Nat} {o : SO} {f : SO → Option γ} (h : σ[i]? = some o) : aO σ i f = f o:=by
  unfold aO
  rw [nth_eq,h]
  rfl
noncomputable def varB (sc : Scope) (x : Str) : Bool:=bA (!seq x (Str.ofString "__debug__")) (optT (fun k=>nkK k true true true false false) (lk x sc.names))
noncomputable def Real (V : Vx) (σ : Sto) : Prop:=∀ ⦃i : Nat⦄ ⦃o : SO⦄,σ[i]? = some o → ∃ k ob,RelO V k o ob
noncomputable def CoP (G : Cx) (n : Nat) (sc : Scope) (e : Expr) (ρ : Rho) (σ : Sto) (sv : SV) (σ' : Sto) : Prop:=EvT G n sc e ρ σ sv σ' ∧ ∀ elt gens scope pos,e = .ListComp elt gens scope pos → CmT G n sc elt gens scope pos ρ σ sv σ'
section
variable {G : Cx} {n k : Nat} {T : Tab} {R : Rec} {sc sc' : Scope} {x : Str} {elt it e : Expr} {ifs : List Expr} {px pos : Pos} {ρ ρ' : Rho} {S : Sto → Prop} {σ σ₁ σ₂ σa σ' : Sto} {v sv : SV}
theorem EvOk.le {ev : Scope → Expr → Rho → Sto → Option (SV × Sto)} (h : EvOk G n ev) (hk : n ≤ k) : EvOk G k ev:=fun sc e ρ σ=>(h sc e ρ σ).mono fun _ z=>EvT.le z hk
theorem EvT.var (ko : KOk G) {p : Pos} (h : varB sc x = true) (hv : lk x ρ = some v) : EvT G n sc (.Name x p) ρ σ v σ:=by
  obtain ⟨k,e,hk⟩:=optT_i (bA_i h).2
  have q : aName sc x ρ σ = some (v,σ):=by
    show gd _ (om (oo (lk x sc.names) fun k=>nkK k (lk x ρ) (lk x ρ) (lk x ρ) (glob x) none) fun v=>(v,σ)) = _
    rw [(bA_i h).1,e,hv]
    cases k <;> first | rfl | exact nT hk
  exact EvT.name ko q
theorem EvT.methB (ko : KOk G) {F : Facts} (fo : FactsOk G.V F) {o : Expr} {ap pos : Pos} {es : List Expr} {vs : List SV} {me : Me} (hb : baseE o = true) (hl : Nat.beq ap.endLine pos.line = true) (hn : es.length ≤ 29) (h : EvT G n sc o ρ σ v σ₁) (t : EvsT G n sc ρ es σ₁ vs σ₂) (hm : methOf v x σ₁ = some me) (hv : meVal me = .builtin (meId me)) (e : bcall F me v vs σ₂ = some (sv,σ')) : EvT G n sc (.Call (.Attribute o x ap) es [] pos) ρ σ sv σ' :=
  EvT.meth ko hb hl hn h hm t (hv ▸ keepOk_builtin _) (hv ▸ bcall_s fo me v vs e)
theorem SubR.put_new (h : (lk x ρ).isNone = true) : SubR ρ (put x v ρ):=fun y sv e=>by
  rw [lk_put]
  split
  · rename_i q
    rw [← q,Option.isNone_iff_eq_none.mp h] at e
    exact nS e
  · exact e
theorem CompB.co {gs : List Comprehension} (h : CompB G n sc elt gs sc' pos ρ σ sv σ') : CoP G n sc (.ListComp elt gs sc' pos) ρ σ sv σ':=⟨h.1,fun _ _ _ _ q=>by cases q; exact h.2⟩
theorem CoP.le (h : CoP G n sc e ρ σ sv σ') (hk : n ≤ k) : CoP G k sc e ρ σ sv σ':=⟨EvT.le h.1 hk,fun a b c d q=>CmT.le (h.2 a b c d q) hk⟩
theorem GoT.real {M : Prop} {stay : Sto → Prop} {items : List SV} (h : GoT G n sc it ρ σ M stay items σ₁) : GoT G n sc it ρ σ (M ∧ Real G.V σ₁) stay items σ₁:=h.known fun Y m=>⟨⟨m,fun _ _ e=>let ⟨_,_,r⟩:=Y.S.obj e; ⟨_,_,r⟩⟩,rfl⟩
theorem GoT.conv {M : Prop} {stay : Sto → Prop} {items : List SV} (h : GoT G n sc it ρ σ M stay items σ₁) (cv : Conv G.V G.V σ₁ σa) (hs : stay σa) : GoT G n sc it ρ σ M stay items σa:=fun c env cm W E Q s hA X k=>h hA X fun S I ob h' tk W' m hS hs' on it nc X' mo=>k m hS hs' (hS.keep on (hs' _ hs) fun _ _ h=>h) it nc (Fx.convV X' cv) mo
theorem StT.real {st : Stmt} {out : Out} (h : Real G.V σ → StT G n sc st ρ σ out ρ' σ') : StT G n sc st ρ σ out ρ' σ':=fun c env m cm cs rest W E Q s hA X k=>h (fun _ _ e=>let ⟨_,_,r⟩:=X.Y.S.obj e; ⟨_,_,r⟩) hA X k
theorem elems_list (hS : S σ) {y : D → Option D} {xs : List D} (h : ∀ a ∈ xs,StepT G n sc' ifs elt ((x,.d a) :: ρ) σ ((y a).map .d) σ) : Elems G n sc' x ifs elt ρ S (xs.map .d) σ ((xs.filterMap y).map .d) σ:=by
  induction xs with
  | nil=>exact .nil
  | cons a xs ih =>
    have t:=Elems.cons (h a (.head _)) hS (ih fun b hb=>h b (.tail _ hb))
    rw [List.filterMap_cons]
    cases q : y a with
    | none=>rw [q] at t; exact t
    | some z=>rw [q] at t; exact t
theorem elems_range (hS : S σ) {y : Nat → Option D} {N : Nat} : ∀ {k : Nat},(∀ j,j < k + N → StepT G n sc' ifs elt ((x,.d (.int (j : Int))) :: ρ) σ ((y j).map .d) σ) → Elems G n sc' x ifs elt ρ S (ints' k N) σ (((List.range' k N).filterMap y).map .d) σ:=by
  induction N with
  | zero=>exact fun _=>.nil
  | succ N ih =>
    intro k h
    have t:=Elems.cons (h k (Nat.lt_add_of_pos_right (Nat.succ_pos N))) hS (ih (k:=k + 1) fun j hj=>h j (by rw [Nat.add_right_comm] at hj; exact hj))
    rw [List.range'_succ,List.filterMap_cons]
    cases q : y k with
    | none=>rw [q] at t; exact t
    | some z=>rw [q] at t; exact t
structure GivesX (V : Vx) (r : LX) (m : Nat) (al : List D) (xs : List D) : Prop where
  den : den V.val r = xs
  mem : ∀ a ∈ xs,a ∈ al
  len : xs.length ≤ m
theorem comp_list (ko : KOk3 G) (ht : TabOk G T) {k0 i nn n' : Nat} {al al' : List D} {l r : LX} (hk : k0 ≤ n) (hcs : compSc sc sc' x ρ = true) (hi : iterOf (runF k0 T) sc ρ it σ = some (.sy i nn al l,σ₁)) {y : D → Option D}
    (el : Real G.V σ₁ → ∀ a ∈ den G.V.val l,a ∈ al → StepT G n sc' ifs elt ((x,.d a) :: ρ) σ₁ ((y a).map .d) σ₁) (hr : Real G.V σ₁ → SyM G.V nn al l → GivesX G.V r n' al' ((den G.V.val l).filterMap y)) : CompB G n sc elt [⟨.Name x px,it,ifs,0⟩] sc' pos ρ σ (.ref σ₁.length) (σ₁ ++ [.sy n' al' r]) :=
  have s : SrcT G n sc ρ it σ (.sy i nn al l) σ₁:=iterOf_s ko.toKOk ((run_ok ko k0 T ht).ev.le hk) it hi
  comp_both ko.cls (compSc_i hcs) s.kn s.go.real (fun M=>elems_list s.here fun a ha=>el M.2 a ha (M.1.1 a ha)) fun M=>.sy (hr M.2 M.1).den (hr M.2 M.1).mem (hr M.2 M.1).len
theorem comp_over (ko : KOk3 G) (ht : TabOk G T) {k0 nn n' : Nat} {al al' : List D} {l r : LX} (hk : k0 ≤ n) (hcs : compSc sc sc' x ρ = true) (hi : overOf (runF k0 T) sc ρ it σ = some (nn,al,l,σ₁)) {y : Nat → Option D}
    (el : Real G.V σ₁ → SyM G.V nn al l → ∀ j,j < (den G.V.val l).length → StepT G n sc' ifs elt ((x,.d (.int (j : Int))) :: ρ) σ₁ ((y j).map .d) σ₁) (hr : Real G.V σ₁ → SyM G.V nn al l → GivesX G.V r n' al' ((List.range' 0 (den G.V.val l).length).filterMap y)) : CompB G n sc elt [⟨.Name x px,it,ifs,0⟩] sc' pos ρ σ (.ref σ₁.length) (σ₁ ++ [.sy n' al' r]) :=
  have s : OverT G n sc ρ it σ nn al l σ₁:=overOf_s ko.toKOk ((run_ok ko k0 T ht).ev.le hk) it hi
  comp_both ko.cls (compSc_i hcs) s.kn s.go.real (fun M=>(range_ints _).symm ▸ elems_range trivial fun j hj=>el M.2 M.1 j (by rw [Nat.zero_add] at hj; exact hj)) fun M=>.sy (hr M.2 M.1).den (hr M.2 M.1).mem (hr M.2 M.1).len
theorem loop_over (ko : KOk3 G) (ht : TabOk G T) {body : List Stmt} {k0 nn : Nat} {al : List D} {l : LX} {out : Out} (hk : k0 ≤ n) (hx : isVar sc x = true) (hi : overOf (runF k0 T) sc ρ it σ = some (nn,al,l,σ₁)) (c0 : Conv G.V G.V σ₁ σa)
    (tu : Real G.V σ₁ → SyM G.V nn al l → Turns G n sc x body (fun _=>True) (ints' 0 (den G.V.val l).length) ρ σa out ρ' σ') : StT G n sc (.For (.Name x px) it body [] pos) ρ σ out ρ' σ' :=
  have s : OverT G n sc ρ it σ nn al l σ₁:=overOf_s ko.toKOk ((run_ok ko k0 T ht).ev.le hk) it hi
  StT.for s.kn hx (s.go.real.conv c0 trivial) fun M=>(range_ints _).symm ▸ tu M.2 M.1
theorem turns_next {body : List Stmt} {σs : Nat → Sto} {N : Nat} : ∀ {k : Nat},(∀ j,j < k + N → ExT G n sc body (put x (.d (.int (j : Int))) ρ) (σs j) .next ρ (σs (j + 1))) → Turns G n sc x body (fun _=>True) (ints' k N) ρ (σs k) .next ρ (σs (k + N)):=by
  induction N with
  | zero=>exact fun _=>.nil
  | succ N ih =>
    intro k h
    have t:=ih (k:=k + 1) fun j hj=>h j (by rw [Nat.add_right_comm] at hj; exact hj)
    rw [Nat.add_right_comm] at t
    exact Turns.next (h k (Nat.lt_add_of_pos_right (Nat.succ_pos N))) trivial t
end
noncomputable abbrev FC:=Rho → Sto → An
noncomputable abbrev FL:=Rho → Sto → StA
noncomputable def atP (p : Pos) (l c : Nat) : Bool:=bA (Nat.beq l p.line) (Nat.beq c p.col)
noncomputable def tabOf (n : Nat) (F : Facts) (cs : List (Nat × Bool × Fn)) (ks : List (Scope × Expr × FC)) (ls : List (Scope × Stmt × FL)) : Tab:=⟨n,true,F,fun a=>om (findB (fun x=>Nat.beq x.1 a) cs) (·.2),fun l c=>findB (fun x=>atP x.2.1.pos l c) ks,fun l c=>findB (fun x=>atP x.2.1.pos l c) ls⟩
noncomputable def CallOk (G : Cx) (n : Nat) (x : Nat × Bool × Fn) : Prop:=∀ g,(x.2.1 = false → g = G.V.obj) → FnOk (G.obj g) n x.1 x.2.2
noncomputable def CompOk (G : Cx) (n : Nat) (x : Scope × Expr × FC) : Prop:=∀ ρ σ,Sat (x.2.2 ρ σ) (U2 (CoP G n x.1 x.2.1 ρ σ))
noncomputable def LoopOk (G : Cx) (n : Nat) (x : Scope × Stmt × FL) : Prop:=∀ ρ σ,Sat (x.2.2 ρ σ) (U3 (StT G n x.1 x.2.1 ρ σ))
theorem CallOk.open {G : Cx} {n a : Nat} {F : Fn} (h : FnOk G n a F) : CallOk G n (a,false,F):=fun g h0=>by cases h0 rfl; exact h
theorem CallOk.closed {G : Cx} {n a : Nat} {F : Fn} (h : ∀ V : Vx,V.w = G.V.w → FnOk (G.vx V) n a F) : CallOk G n (a,true,F):=fun g _=>h { G.V with obj:=g } rfl
theorem tabOf_ok {G : Cx} {n : Nat} {F : Facts} {cs : List (Nat × Bool × Fn)} {ks : List (Scope × Expr × FC)} {ls : List (Scope × Stmt × FL)} (fo : FactsOk G.V F) (hc : ∀ x ∈ cs,CallOk G n x) (hk : ∀ x ∈ ks,CompOk G n x) (hl : ∀ x ∈ ls,LoopOk G n x) : TabOk G (tabOf n F cs ks ls) :=
  ⟨fo,fun a q e=>(Sat.om (P:=fun q=>∀ g,(q.1 = false → g = G.V.obj) → FnOk (G.obj g) n a q.2) fun x hx=>Nat.eq_of_beq_eq_true (Sat.findB cs hx).2 ▸ hc x (Sat.findB cs hx).1) e,fun l c q e=>hk q (Sat.findB ks e).1,fun l c q e=>hl q (Sat.findB ls e).1⟩
section
variable {γ : Type} {P : γ → Prop}
noncomputable def obSy (x : Option (Src × Sto)) (f : Nat → List D → LX → Sto → Option γ) : Option γ:=ob x fun r σ=>@Src.casesOn (fun _=>Option γ) r (fun _ _=>none) (fun _ _ _=>none) fun _ n al l=>f n al l σ
theorem Sat.obSy {x : Option (Src × Sto)} {f : Nat → List D → LX → Sto → Option γ} (k : ∀ i n al l σ,x = some (.sy i n al l,σ) → Sat (f n al l σ) P) : Sat (Mine.obSy x f) P:=.ob fun r σ e=>by cases r <;> first | exact .no | exact k _ _ _ _ _ e
noncomputable def obOv (x : Option (Nat × List D × LX × Sto)) (f : Nat → List D → LX → Sto → Option γ) : Option γ:=oo x fun q=>f q.1 q.2.1 q.2.2.1 q.2.2.2
theorem Sat.obOv {x : Option (Nat × List D × LX × Sto)} {f : Nat → List D → LX → Sto → Option γ} (k : ∀ n al l σ,x = some (n,al,l,σ) → Sat (f n al l σ) P) : Sat (Mine.obOv x f) P:=.oo fun q e=>k _ _ _ _ e
noncomputable def refAt (x : String) (ρ : Rho) (f : Nat → Option γ) : Option γ:=oo (lk (nm x) ρ) fun v=>vRef v f
theorem Sat.refAt {x : String} {ρ : Rho} {f : Nat → Option γ} (k : ∀ j,Mine.lk (nm x) ρ = some (.ref j) → Sat (f j) P) : Sat (Mine.refAt x ρ f) P:=.oo fun v e=>by cases v <;> first | exact .no | exact k _ e
noncomputable def aFst (σ : Sto) (j : Nat) (f : LX → Option γ) : Option γ:=aDx σ j (fun _=>none) (fun x=>@DX.casesOn (fun _=>Option γ) x (fun _=>none) (fun _ _ _=>none) f) fun _ _=>none
theorem Sat.aFst {σ : Sto} {j : Nat} {f : LX → Option γ} (k : ∀ l,σ[j]? = some (.sd (.first l)) → Sat (f l) P) : Sat (Mine.aFst σ j f) P:=.aDx (fun _ _=>.no) (fun x e=>by cases x <;> first | exact .no | exact k _ e) fun _ _ _=>.no
end
noncomputable def allN (f : Nat → Bool) (n : Nat) : Bool:=@Nat.rec (fun _=>Bool) true (fun n ih=>bA (f n) ih) n
theorem allN_i {f : Nat → Bool} {n : Nat} (h : allN f n = true) : ∀ k,k < n → f k = true:=by
  induction n with
  | zero=>exact fun k hk=>absurd hk (Nat.not_lt_zero k)
  | succ n ih=>exact fun k hk=>(Nat.lt_succ_iff_lt_or_eq.mp hk).elim (ih (bA_i h).2 k) fun e=>e ▸ (bA_i h).1
noncomputable def intsTo (n : Nat) : List D:=K.lmap (fun (k : Nat)=>.int (k : Int)) (List.range n)
theorem mem_intsTo {n k : Nat} (h : k < n) : D.int (k : Int) ∈ intsTo n:=mem_lmap (f:=fun (k : Nat)=>D.int (k : Int)) (List.mem_range.mpr h)
noncomputable def stripM : LX → LX:=@LX.rec (fun _=>LX) .var .lit (fun _ _ ih=>ih) (fun t l _=>.tab t l) (fun t l _=>.itab t l) (fun a b _ _=>.cat a b) (fun l _=>.rev l) (fun n l _=>.take n l) (fun n l _=>.drop n l) fun k a b _ _=>.fn k a b
theorem strip_len {val : Nat → List D} (l : LX) : (den val l).length = (den val (stripM l)).length:=by
  induction l with
  | map t l ih=>exact (List.length_map ..).trans ih
  | _=>rfl
noncomputable def bnd1 (l : LX) (m : Nat) (o : SO) : Bool:=@SO.casesOn (fun _=>Bool) o (fun _=>false) (fun n _ l'=>bA (sameX (stripM l') (stripM l)) (Nat.ble n m)) (fun _=>false) (fun _=>false) (fun _ _=>false) (fun _=>false) (fun _=>false) (fun _=>false) fun _ _=>false
noncomputable def bndX (l : LX) (m : Nat) (σ : Sto) : Bool:=(findB (bnd1 l m) σ).isSome
theorem bndX_s {V : Vx} {σ : Sto} {l : LX} {m : Nat} (re : Real V σ) (h : bndX l m σ = true) : (den V.val l).length ≤ m:=by
  obtain ⟨o,e⟩:=Option.isSome_iff_exists.mp h
  obtain ⟨hm,h⟩:=Sat.findB σ e
  obtain ⟨i,hi⟩:=List.getElem?_of_mem hm
  obtain ⟨_,_,r⟩:=re hi
  rw [strip_len]
  cases o with
  | sy n al l' =>
    obtain ⟨_,_,_,_,hl,_⟩:=r
    rw [← sameX_eq _ _ (bA_i h).1,← strip_len]
    exact Nat.le_trans hl (Nat.le_of_ble_eq_true (bA_i h).2)
  | _=>exact nT h
noncomputable def sto2 (σ σ' : Sto) : Bool:=bA (sameS σ σ') (Nat.beq (K.len σ) (K.len σ'))
theorem sto2_i {σ σ' : Sto} (h : sto2 σ σ' = true) : σ = σ':=sameS_eq (bA_i h).1 (Nat.eq_of_beq_eq_true (bA_i h).2)
noncomputable def keyG (f : D → An) (σ : Sto) (a : D) : Option (Option D):=ob (f a) fun v σ'=>vStr v fun s=>gd (sto2 σ σ') (some (some (.str s)))
noncomputable def keyTab (f : D → An) (σ : Sto) (al : List D) : Option (List (D × Option D)):=mapM (fun a=>om (keyG f σ a) fun y=>(a,y)) al
noncomputable def KeyQ (f : D → An) (σ : Sto) (a : D) (y : Option D) : Prop:=∃ s,y = some (.str s) ∧ f a = some (.d (.str s),σ)
theorem keyTab_s (f : D → An) (σ : Sto) (al : List D) : Sat (keyTab f σ al) (TblR (KeyQ f σ) al) :=
  tbl_s (fun a=>.ob fun v σ' e=>(Sat.vStr (P:=fun v y=>f a = some (v,σ') → KeyQ f σ a y) fun s=>.gd fun h=>.yes fun e=>⟨s,rfl,by rw [e,sto2_i h]⟩).mono fun _ k=>k e) al
noncomputable def sameTo (t : List (D × Option D)) (q : Option (List (D × Option D))) : Bool:=optT (sameT t) q
theorem sameTo_i {t : List (D × Option D)} {q : Option (List (D × Option D))} (h : sameTo t q = true) : q = some t:=by
  obtain ⟨u,e,h⟩:=optT_i h
  rw [e,sameT_eq _ _ h]
theorem lk_append {α : Type} {x : Str} {r : List (Str × α)} (l : List (Str × α)) : lk x (l ++ r) = oe (lk x l) (lk x r):=by
  induction l with
  | nil=>rfl
  | cons p l ih =>
    show bI (seq p.1 x) (some p.2) (lk x (l ++ r)) = oe (bI (seq p.1 x) (some p.2) (lk x l)) (lk x r)
    cases seq p.1 x
    · exact ih
    · rfl
theorem lk_setd {es : List (Str × D)} {k s : Str} {v : D} : lk s (setdD es k v) = oe (lk s es) (bI (seq k s) (some v) none):=by
  unfold setdD
  cases q : lk k es with
  | none=>exact lk_append es
  | some w =>
    show lk s es = _
    cases q' : lk s es with
    | some z=>rfl
    | none =>
      cases h : seq k s with
      | false=>rfl
      | true=>exact nS ((seq_eq h ▸ q').symm.trans q)
theorem firstD_lk {s : Str} (ks : List D) : ∀ n es,lk s (firstD ks n es) = oe (lk s es) (om (plcN (.str s) ks n) fun (i : Nat)=>D.int (i : Int)):=by
  induction ks with
  | nil=>exact fun n es=>(by cases lk s es <;> rfl : lk s es = oe (lk s es) none)
  | cons a r ih =>
    intro n es
    cases a with
    | str k =>
      refine (ih (n + 1) (setdD es k (.int n))).trans ?_
      rw [lk_setd]
      show oe (oe (lk s es) (bI (seq k s) (some (.int n)) none)) _ = oe (lk s es) (om (bI (seq k s) (some n) (plcN (.str s) r (n + 1))) _)
      cases lk s es with
      | some z=>rfl
      | none=>cases seq k s <;> rfl
    | _=>exact ih (n + 1) es
theorem firstD_app {b : List D} (a : List D) : ∀ n es,firstD (a ++ b) n es = firstD b (n + a.length) (firstD a n es):=by
  induction a with
  | nil=>exact fun _ _=>rfl
  | cons x a ih=>exact fun n es=>(ih (n + 1) _).trans (by rw [Nat.add_right_comm]; rfl)
theorem setd_len {es : List (Str × D)} {k : Str} {v : D} : (setdD es k v).length ≤ es.length + 1:=by
  unfold setdD
  cases lk k es with
  | none=>exact Nat.le_of_eq (List.length_append ..)
  | some w=>exact Nat.le_succ _
theorem firstD_len (ks : List D) : ∀ n es,(firstD ks n es).length ≤ es.length + ks.length:=by
  induction ks with
  | nil=>exact fun n es=>Nat.le_refl _
  | cons a r ih =>
    intro n es
    rw [List.length_cons,Nat.add_comm r.length,← Nat.add_assoc]
    cases a with
    | str k=>exact Nat.le_trans (ih (n + 1) _) (Nat.add_le_add_right setd_len _)
    | _=>exact Nat.le_trans (ih (n + 1) es) (Nat.add_le_add_right (Nat.le_succ _) _)
theorem plcN_take {x : D} (ks : List D) : ∀ {k n : Nat},ks[k]? = some x → plcN x ks n = some ((plcN x (ks.take k) n).getD (n + k)):=by
  induction ks with
  | nil=>exact fun h=>nS h
  | cons y r ih =>
    intro k n h
    cases k with
    | zero =>
      have e : y = x:=Option.some.inj h
      rw [e]
      show bI (sameD x x) (some n) _ = _
      rw [sameD_self]
      rfl
    | succ k =>
      show bI (sameD y x) (some n) (plcN x r (n + 1)) = some ((bI (sameD y x) (some n) (plcN x (r.take k) (n + 1))).getD (n + (k + 1)))
      cases sameD y x with
      | true=>rfl
      | false=>exact (ih h).trans (by rw [Nat.add_right_comm]; rfl)
theorem plcN_lt {x : D} (ks : List D) : ∀ {n},Sat (plcN x ks n) fun i=>n ≤ i ∧ i < n + ks.length:=by
  induction ks with
  | nil=>exact fun {n}=>Sat.no
  | cons y r ih=>exact fun {n}=>.bI (fun _=>.yes ⟨Nat.le_refl _,Nat.lt_add_of_pos_right (Nat.succ_pos _)⟩) fun _=>ih.mono fun i h=>⟨Nat.le_of_succ_le h.1,by rw [Nat.add_right_comm] at h; exact h.2⟩
theorem plcN_in {x : D} {ks : List D} {i m : Nat} (h : plcN x ks 0 = some i) (hm : ks.length ≤ m) : i < m:=Nat.lt_of_lt_of_le (Nat.lt_of_lt_of_le (plcN_lt ks h).2 (Nat.le_of_eq (Nat.zero_add _))) hm
theorem plcD_al {x : D} {ks : List D} {m : Nat} (hm : ks.length ≤ m) : plcD ks x ∈ D.none :: intsTo m:=by
  unfold plcD
  cases q : plcN x ks 0 with
  | none=>exact .head _
  | some i=>exact .tail _ (mem_intsTo (plcN_in q hm))
theorem plcD_mem {ks : List D} {x : D} (h : x ∈ ks) : plcD ks x ∈ intsTo ks.length:=by
  obtain ⟨k,hk⟩:=List.getElem?_of_mem h
  have e:=plcN_take ks (n:=0) hk
  unfold plcD
  rw [e]
  exact mem_intsTo (plcN_in e (Nat.le_refl _))
theorem set_self {σ : Sto} {j : Nat} {o : SO} (h : σ[j]? = some o) : σ.set j o = σ:=by
  obtain ⟨hl,e⟩:=List.getElem?_eq_some_iff.mp h
  exact e ▸ List.set_getElem_self hl
theorem conv_set {V : Vx} {σ : Sto} {j : Nat} {o o' : SO} (h : σ[j]? = some o) (c : CvO V V o o') : Conv V V σ (σ.set j o'):=by
  have t:=All2.set (i:=j) c (Conv.refl (V:=V) (σ:=σ))
  rw [set_self h] at t
  exact t
theorem CvO.sd {V : Vx} {x x' : DX} (e : denX V x' = denX V x) (hn : (denX V x').length ≤ 100) : CvO V V (.sd x) (.sd x'):=fun _ _ h=>⟨Nat.le_trans hn (Nat.le_add_right _ _),e ▸ h.2⟩
noncomputable def sc122 : Scope:=scOf (stN 122)
noncomputable def e815 : Expr:=retE (stAt (bodyOf (stN 122)) 4)
noncomputable def c815 : Expr:=pa e815 0
noncomputable def F815 : FC:=fun ρ σ=>gd (compSc sc122 (lcSc e815) (nm "item") ρ) (obSy (iterOf (runF 40 T0) sc122 ρ (pa e815 2) σ) fun nn al l σ₁=>refAt "known" ρ fun j=>aFst σ₁ j fun M=>gd (bA (bndX M 6 σ₁) (sameX M M))
  (oo (keyTab (fun a=>(runF 40 T0).ev (lcSc e815) (pa c815 1) ((nm "item",.d a) :: ρ) σ₁) σ₁ al) fun t=>nw σ₁ (.sy nn (.none :: intsTo 6) (.fn 1 (.map t l) M))))
theorem e815_shape : e815 = lcOf (nm "item") e815:=by kernel_rfl
theorem elt815 : c815 = .Call (.Attribute (.Name (nm "known") (pa (pa c815 0) 0).pos) (nm "get") (pa c815 0).pos) [pa c815 1] [] c815.pos:=by kernel_rfl
section
variable {G : Cx} (ko : KOk3 G)
include ko
theorem get_key {V : Vx} {t : List (D × Option D)} {al : List D} {f : D → An} {σ : Sto} {a : D} (ht : TblR (KeyQ f σ) al t) (h : a ∈ al) : ∃ s,mapT t a = .str s ∧ f a = some (.d (.str s),σ):=by
  obtain ⟨⟨s,e,hf⟩,_⟩:=ht a h
  exact ⟨s,by unfold mapT; rw [e]; rfl,hf⟩
theorem F815_s : CompOk G 40 (sc122,e815,F815):=fun ρ σ=>.gd fun hcs=>.obSy fun i nn al l σ₁ hi=>.refAt fun j hj=>.aFst fun M ho=>.gd fun hb=>.oS (keyTab_s _ σ₁ al) fun t ht=>.nw (by
  show CoP G 40 sc122 e815 ρ σ _ _
  rw [e815_shape]
  refine (comp_list ko (tab0 G) (Nat.le_refl 40) hcs hi (y:=fun a=>some (plcD (den G.V.val M) (mapT t a))) (fun re a ha hal=>StepT.ev ?_) fun re hl=>⟨?_,fun a ha=>?_,?_⟩).co
  · obtain ⟨s,hs,hk⟩:=get_key ko (V:=G.V) ht hal
    show EvT G 40 _ c815 _ _ (.d (plcD (den G.V.val M) (mapT t a))) _
    rw [elt815]
    refine EvT.methB ko.toKOk (me:=.get) (factGet (V:=G.V) (s:=s) (x:=.first M) rfl) (by kernel_rfl) (by kernel_rfl) (by decide) (EvT.var ko.toKOk (v:=.ref j) (by kernel_rfl) hj) (.cons (by kernel_rfl) (EvT.run ko (tab0 G) hk) .nil) ((aO_to ho).trans (by kernel_rfl)) rfl ((aO_to ho).trans ?_)
    show om (getX (.first M) s [_]) _ = _
    rw [getX_self (x:=.first M) (bA_i hb).2,hs]
    show some (SV.d ((lk s (firstD (den G.V.val M) 0 [])).getD .none),σ₁) = _
    rw [firstD_lk]
    unfold plcD
    cases plcN (.str s) (den G.V.val M) 0 <;> rfl
  · rw [List.filterMap_eq_map' (f:=fun a=>plcD (den G.V.val M) (mapT t a))]
    exact List.map_map ..
  · obtain ⟨b,_,e⟩:=List.mem_filterMap.mp ha
    exact Option.some.inj e ▸ plcD_al (bndX_s re (bA_i hb).1)
  · exact Nat.le_trans (List.length_filterMap_le ..) hl.2)
theorem setd_ev {n : Nat} {sc : Scope} {ρ : Rho} {τ : Sto} {o ke pe : Expr} {ap pos : Pos} {j k : Nat} {s : Str} {M : LX} (hb : baseE o = true) (hl : Nat.beq ap.endLine pos.line = true) (pk : known ke = true) (pp : known pe = true) (hj : τ[j]? = some (.sd (.first (.take k M)))) (hM : sameX M M = true) (hk : (den G.V.val M)[k]? = some (.str s)) (h6 : (den G.V.val M).length ≤ 6)
    (h0 : EvT G n sc o ρ τ (.ref j) τ) (h1 : EvT G n sc ke ρ τ (.d (.str s)) τ) (h2 : EvT G n sc pe ρ τ (.d (.int (k : Int))) τ) : EvT G n sc (.Call (.Attribute o (nm "setdefault") ap) [ke,pe] [] pos) ρ τ (.d (plcD (den G.V.val M) (.str s))) (τ.set j (.sd (.first (.take (k + 1) M)))):=by
  have hs : sameDX (.first (.take k M)) (.first (.take k M)) = true:=bA_to (Nat.beq_refl k) hM
  have hx : ∀ m,(firstD ((den G.V.val M).take m) 0 []).length ≤ 100:=fun m=>Nat.le_trans (firstD_len _ 0 []) (Nat.le_trans (Nat.add_le_add_left (Nat.le_trans (List.length_take_le' ..) h6) 0) (by decide))
  have hn : denX G.V (.first (.take (k + 1) M)) = setdD (denX G.V (.first (.take k M))) s (.int (k : Int)):=by
    show firstD ((den G.V.val M).take (k + 1)) 0 [] = setdD (firstD ((den G.V.val M).take k) 0 []) s _
    rw [List.take_add_one,hk]
    refine (firstD_app ((den G.V.val M).take k) 0 []).trans ?_
    rw [List.length_take,Nat.min_eq_left (Nat.le_of_lt (List.getElem?_eq_some_iff.mp hk).1),Nat.zero_add]
    rfl
  have hp : plcD (den G.V.val M) (.str s) = (lk s (denX G.V (.first (.take k M)))).getD (.int (k : Int)):=by
    show _ = (lk s (firstD ((den G.V.val M).take k) 0 [])).getD _
    rw [firstD_lk]
    unfold plcD
    rw [plcN_take _ hk,Nat.zero_add]
    cases plcN (.str s) ((den G.V.val M).take k) 0 <;> rfl
  have run : ∀ {r σ'},mSetdef { F0 with gets:=[(.first (.take k M),s,lk s (denX G.V (.first (.take k M))))] } j (.d (.str s)) (.d (.int (k : Int))) τ = some (r,σ') → EvT G n sc (.Call (.Attribute o (nm "setdefault") ap) [ke,pe] [] pos) ρ τ r σ':=fun e =>
    EvT.methB ko.toKOk (me:=.setdefault) (factGet (V:=G.V) rfl) hb hl (Nat.le_of_ble_eq_true rfl) h0 (.cons pk h1 (.cons pp h2 .nil)) ((aO_to hj).trans (by kernel_rfl)) rfl e
  rw [hp]
  have step : mSetdef { F0 with gets:=[(.first (.take k M),s,lk s (denX G.V (.first (.take k M))))] } j (.d (.str s)) (.d (.int (k : Int))) τ = @Option.rec D (fun _=>An) (upd τ j (.sd (.setd (.first (.take k M)) s (.int (k : Int)))) (.d (.int (k : Int)))) (fun z=>some (.d z,τ)) (lk s (denX G.V (.first (.take k M)))):=by
    refine (aO_to hj).trans ?_
    show gle 0 100 (oo (getX _ _ _) _) = _
    rw [getX_self hs]
    rfl
  cases q : lk s (denX G.V (.first (.take k M))) with
  | some z =>
    rw [q] at step run
    refine EvT.conv (run step) (conv_set hj (.sd (hn.trans ?_) (hx (k + 1))))
    unfold setdD
    rw [q]
  | none =>
    rw [q] at step run
    refine EvT.conv (run step) ?_
    rw [K.lset_eq]
    exact All2.set (.sd hn (hx (k + 1))) Conv.refl
end
noncomputable def s813 : Stmt:=stAt (bodyOf (stN 122)) 3
noncomputable def b813 : Stmt:=stAt (sb s813 0) 0
noncomputable def c813 : Expr:=sa b813 0
noncomputable def keyP (sc : Scope) (ke : Expr) (ρ : Rho) (τ : Sto) (l : LX) (be : List D) (k : Nat) : Option (List (D × Option D)):=keyTab (fun a=>(runF 40 (TF { F0 with ats:=[(l,k,a)] })).ev sc ke (put (nm "place") (.d (.int (k : Int))) ρ) τ) τ be
noncomputable def sdAt (j : Nat) (M : LX) (σ : Sto) (k : Nat) : Sto:=K.lset σ j (.sd (.first (.take k M)))
noncomputable def F813 : FL:=fun ρ σ=>obOv (overOf (runF 40 T0) sc122 ρ (sa s813 1) σ) fun m be l σ₁=>refAt "known" ρ fun j=>aDi σ₁ j fun es=>l0 es (oo (keyP sc122 (pa c813 1) ρ (sdAt j (.lit []) σ₁ 0) l be 0) fun t =>
  gd (bA (lk (nm "place") ρ).isNone (bA (Nat.ble m 6) (bA (sameX (.map t l) (.map t l)) (allN (fun k=>sameTo t (keyP sc122 (pa c813 1) ρ (sdAt j (.map t l) σ₁ k) l be k)) m)))) (some (.next,ρ,K.lset σ₁ j (.sd (.first (.map t l))))))
theorem s813_shape : s813 = .For (.Name (nm "place") (sa s813 0).pos) (sa s813 1) (sb s813 0) [] s813.pos:=by kernel_rfl
theorem b813_shape : sb s813 0 = [.Expr (.Call (.Attribute (.Name (nm "known") (pa (pa c813 0) 0).pos) (nm "setdefault") (pa c813 0).pos) [pa c813 1,.Name (nm "place") (pa c813 2).pos] [] c813.pos) b813.pos]:=by kernel_rfl
theorem ne_of_seq {a b : Str} (h : seq a b = false) : a ≠ b:=fun q=>nT (h.symm.trans (seq_iff.mpr q))
theorem lk_putv {α : Type} {x : Str} {v : α} {l : List (Str × α)} : lk x (put x v l) = some v:=(lk_put l x).trans (if_pos rfl)
theorem lk_puto {α : Type} {x y : Str} {v : α} {l : List (Str × α)} (h : seq x y = false) : lk y (put x v l) = lk y l:=(lk_put l y).trans (if_neg (ne_of_seq h))
theorem key_at {G : Cx} (ko : KOk3 G) {sc : Scope} {ke : Expr} {ρ : Rho} {τ : Sto} {l : LX} {be : List D} {t : List (D × Option D)} {k : Nat} (h : sameTo t (keyP sc ke ρ τ l be k) = true) (hl : ∀ a ∈ den G.V.val l,a ∈ be) (hk : k < (den G.V.val l).length) : ∃ s,(den G.V.val (.map t l))[k]? = some (.str s) ∧ EvT G 40 sc ke (put (nm "place") (.d (.int (k : Int))) ρ) τ (.d (.str s)) τ:=by
  have ha : (den G.V.val l)[k]? = some ((den G.V.val l)[k]):=List.getElem?_eq_getElem hk
  obtain ⟨s,hs,hr⟩:=get_key ko (V:=G.V) (keyTab_s _ _ _ (sameTo_i h)) (hl _ (List.getElem_mem hk))
  exact ⟨s,(List.getElem?_map ..).trans (ha ▸ congrArg some hs),EvT.run ko (tabFk (factAt ha)) hr⟩
theorem di_sd {V : Vx} {M : LX} : CvO V V (.di []) (.sd (.first (.take 0 M))):=fun _ _ h=>⟨Nat.zero_le _,h⟩
theorem sd_end {V : Vx} {M : LX} {N : Nat} (h : (den V.val M).length ≤ N) : CvO V V (.sd (.first (.take N M))) (.sd (.first M)):=fun _ _ r=>by
  have e : denX V (.first (.take N M)) = denX V (.first M):=congrArg (firstD · 0 []) (List.take_of_length_le h)
  exact ⟨e ▸ r.1,e ▸ r.2⟩
theorem F813_s {G : Cx} (ko : KOk3 G) : LoopOk G 40 (sc122,s813,F813):=fun ρ σ=>by
  show Sat (F813 ρ σ) _
  unfold F813
  refine .obOv fun m be l σ₁ hi=>.refAt fun j hj=>.aDi fun es ho=>?_
  cases es with
  | cons _ _=>exact .no
  | nil =>
    refine .oo fun t _=>.gd fun h=>.yes ?_
    have h2:=bA_i (bA_i h).2
    have h3:=bA_i h2.2
    show StT G 40 sc122 s813 ρ σ .next ρ (K.lset _ _ _)
    rw [s813_shape,K.lset_eq]
    refine StT.conv (loop_over ko (tab0 G) (Nat.le_refl 40) (by kernel_rfl) hi (σ':=σ₁.set j (.sd (.first (.take (den G.V.val l).length (.map t l))))) (conv_set ho (di_sd (M:=.map t l))) fun re M=>?_) ?_
    · have T:=turns_next (G:=G) (n:=40) (sc:=sc122) (ρ:=ρ) (x:=nm "place") (body:=sb s813 0) (σs:=fun k=>σ₁.set j (.sd (.first (.take k (.map t l))))) (k:=0) (N:=(den G.V.val l).length) fun k hk=>?_
      · rw [Nat.zero_add] at T
        exact T
      · rw [Nat.zero_add] at hk
        have hj' : (σ₁.set j (.sd (.first (.take k (.map t l)))))[j]? = some (.sd (.first (.take k (.map t l)))):=List.getElem?_set_self (List.getElem?_eq_some_iff.mp ho).1
        obtain ⟨s,hs,hr⟩:=key_at ko (allN_i h3.2 k (Nat.lt_of_lt_of_le hk (Nat.le_trans M.2 (Nat.le_refl _)))) M.1 hk
        have lm : (den G.V.val (.map t l)).length ≤ 6:=Nat.le_trans (Nat.le_of_eq (List.length_map ..)) (Nat.le_trans M.2 (Nat.le_of_ble_eq_true h2.1))
        have ev:=setd_ev ko (ap:=(pa c813 0).pos) (pos:=c813.pos) (by kernel_rfl) (by kernel_rfl) (by kernel_rfl) (by kernel_rfl) hj' h3.1 hs lm (EvT.var ko.toKOk (p:=(pa (pa c813 0) 0).pos) (by kernel_rfl) ((lk_puto (by kernel_rfl)).trans hj)) (by unfold sdAt at hr; rw [K.lset_eq] at hr; exact hr) (EvT.var ko.toKOk (p:=(pa c813 2).pos) (x:=nm "place") (by kernel_rfl) lk_putv)
        rw [b813_shape]
        rw [List.set_set] at ev
        exact ExT.post (ExT.last (StT.expr rfl ev)) (SubR.put_new (bA_i h).1) .refl
    · exact All2.set (sd_end (V:=G.V) (M:=.map t l) (Nat.le_of_eq (List.length_map (as:=den G.V.val l) (mapT t)))) Conv.refl
noncomputable def sc116 : Scope:=scOf (stN 116)
noncomputable def s779 : Stmt:=stAt (bodyOf (stN 116)) 3
noncomputable def b779 : Stmt:=stAt (sb s779 0) 0
noncomputable def f779 : Expr:=sa b779 0
noncomputable def c779 : Expr:=pa f779 1
noncomputable def stAt779 (j i : Nat) (M : LX) (σ : Sto) (k : Nat) : Sto:=K.lset (K.lset σ j (.sd (.first (.take k M)))) i (.sy 6 (intsTo 6) (.take k (.fn 1 M M)))
noncomputable def F779 : FL:=fun ρ σ=>obOv (overOf (runF 40 T0) sc116 ρ (sa s779 1) σ) fun m be l σ₁=>refAt "known" ρ fun j=>refAt "found" ρ fun i=>aDi σ₁ j fun es=>l0 es (aDl σ₁ i fun xs=>l0 xs (oo (keyP sc116 (pa c779 1) ρ (stAt779 j i (.lit []) σ₁ 0) l be 0) fun t =>
  gd (bA (lk (nm "place") ρ).isNone (bA (Nat.ble m 6) (bA (sameX (.map t l) (.map t l)) (bA (bndX l m σ) (allN (fun k=>sameTo t (keyP sc116 (pa c779 1) ρ (stAt779 j i (.map t l) σ₁ k) l be k)) m))))) (some (.next,ρ,K.lset (K.lset σ₁ j (.sd (.first (.map t l)))) i (.sy m (intsTo m) (.fn 1 (.map t l) (.map t l)))))))
theorem s779_shape : s779 = .For (.Name (nm "place") (sa s779 0).pos) (sa s779 1) (sb s779 0) [] s779.pos:=by kernel_rfl
theorem b779_shape : sb s779 0 = [.Expr (.Call (.Attribute (.Name (nm "found") (pa (pa f779 0) 0).pos) (nm "append") (pa f779 0).pos) [.Call (.Attribute (.Name (nm "known") (pa (pa c779 0) 0).pos) (nm "setdefault") (pa c779 0).pos) [pa c779 1,.Name (nm "place") (pa c779 2).pos] [] c779.pos] [] f779.pos) b779.pos]:=by kernel_rfl
theorem map_getM {V : Vx} {M : LX} {k : Nat} {x : D} (h : (den V.val M)[k]? = some x) : den V.val (.cat (.take k (.fn 1 M M)) (.lit [plcD (den V.val M) x])) = den V.val (.take (k + 1) (.fn 1 M M)):=by
  show ((den V.val M).map (plcD (den V.val M))).take k ++ [_] = ((den V.val M).map (plcD (den V.val M))).take (k + 1)
  rw [List.take_add_one,List.getElem?_map,h]
  rfl
theorem fn1_mem {V : Vx} {M : LX} {x : D} (h : x ∈ den V.val (.fn 1 M M)) : x ∈ intsTo (den V.val M).length:=by
  obtain ⟨y,hy,rfl⟩:=List.mem_map.mp h
  exact plcD_mem hy
theorem fn1_len {V : Vx} {M : LX} : (den V.val (.fn 1 M M)).length = (den V.val M).length:=List.length_map (as:=den V.val M) _
theorem ints_le {m n : Nat} (h : m ≤ n) {x : D} (hx : x ∈ intsTo m) : x ∈ intsTo n:=by
  unfold intsTo at hx
  rw [K.lmap_eq] at hx
  obtain ⟨k,hk,rfl⟩:=List.mem_map.mp hx
  exact mem_intsTo (Nat.lt_of_lt_of_le (List.mem_range.mp hk) h)
theorem F779_s {G : Cx} (ko : KOk3 G) : LoopOk G 40 (sc116,s779,F779):=fun ρ σ=>by
  show Sat (F779 ρ σ) _
  unfold F779
  refine .obOv fun m be l σ₁ hi=>.refAt fun j hj=>.refAt fun i hi'=>.aDi fun es ho=>?_
  cases es with
  | cons _ _=>exact .no
  | nil =>
  refine .aDl fun xs hx=>?_
  cases xs with
  | cons _ _=>exact .no
  | nil =>
  refine .oo fun t _=>.gd fun h=>.yes ?_
  have h2:=bA_i (bA_i h).2
  have h3:=bA_i h2.2
  have h4:=bA_i h3.2
  have hji : j ≠ i:=fun q=>nomatch (Option.some.inj ((q ▸ ho : σ₁[i]? = _).symm.trans hx) : SO.di [] = SO.dl [])
  have hj1 : ∀ o o',((σ₁.set j o).set i o')[j]? = some o:=fun o o'=>(List.getElem?_set_ne (Ne.symm hji)).trans (List.getElem?_set_self (List.getElem?_eq_some_iff.mp ho).1)
  have hi1 : ∀ o o',((σ₁.set j o).set i o')[i]? = some o':=fun o o'=>List.getElem?_set_self ((List.length_set ..).symm ▸ (List.getElem?_eq_some_iff.mp hx).1)
  have hx1 : ∀ o,(σ₁.set j o)[i]? = some (.dl []):=fun o=>(List.getElem?_set_ne hji).trans hx
  show StT G 40 sc116 s779 ρ σ .next ρ (K.lset _ _ _)
  rw [s779_shape,K.lset_eq,K.lset_eq]
  refine StT.real fun re=>?_
  have hN:=bndX_s re h4.1
  have lm : (den G.V.val (.map t l)).length ≤ 6:=Nat.le_trans (Nat.le_of_eq (List.length_map (as:=den G.V.val l) (mapT t))) (Nat.le_trans hN (Nat.le_of_ble_eq_true h2.1))
  have fl : (den G.V.val (.fn 1 (.map t l) (.map t l))).length = (den G.V.val (.map t l)).length:=fn1_len
  refine StT.conv (loop_over ko (tab0 G) (Nat.le_refl 40) (by kernel_rfl) hi (σ':=(σ₁.set j (.sd (.first (.take (den G.V.val l).length (.map t l))))).set i (.sy 6 (intsTo 6) (.take (den G.V.val l).length (.fn 1 (.map t l) (.map t l))))) ((conv_set ho (di_sd (M:=.map t l))).trans (conv_set (hx1 _) (o':=.sy 6 (intsTo 6) (.take 0 (.fn 1 (.map t l) (.map t l)))) fun _ _ r=>LsR.mono r fun _ r=>⟨zero,Nat.zero_le _,r⟩)) fun re M=>?_) ?_
  · have T:=turns_next (G:=G) (n:=40) (sc:=sc116) (ρ:=ρ) (x:=nm "place") (body:=sb s779 0) (σs:=fun k=>(σ₁.set j (.sd (.first (.take k (.map t l))))).set i (.sy 6 (intsTo 6) (.take k (.fn 1 (.map t l) (.map t l))))) (k:=0) (N:=(den G.V.val l).length) fun k hk=>?_
    · rw [Nat.zero_add] at T
      exact T
    · rw [Nat.zero_add] at hk
      obtain ⟨s,hs,hr⟩:=key_at ko (allN_i h4.2 k (Nat.lt_of_lt_of_le hk hN)) M.1 hk
      have ev:=setd_ev ko (ap:=(pa c779 0).pos) (pos:=c779.pos) (by kernel_rfl) (by kernel_rfl) (by kernel_rfl) (by kernel_rfl) (hj1 _ _) h3.1 hs lm (EvT.var ko.toKOk (p:=(pa (pa c779 0) 0).pos) (by kernel_rfl) ((lk_puto (by kernel_rfl)).trans hj)) (by unfold stAt779 at hr; rw [K.lset_eq,K.lset_eq] at hr; exact hr) (EvT.var ko.toKOk (p:=(pa c779 2).pos) (x:=nm "place") (by kernel_rfl) lk_putv)
      rw [List.set_comm _ _ (Ne.symm hji),List.set_set] at ev
      rw [b779_shape]
      refine ExT.post (ExT.last (StT.expr rfl (EvT.methB ko.toKOk (F:=F0) (me:=.append) (FactsOk.nil G.V []) (by kernel_rfl) (by kernel_rfl) (Nat.le_of_ble_eq_true rfl) (EvT.var ko.toKOk (v:=.ref i) (by kernel_rfl) ((lk_puto (by kernel_rfl)).trans hi')) (.cons (by kernel_rfl) ev .nil) ((aO_to (hi1 _ _)).trans (by kernel_rfl)) rfl ((aO_to (hi1 _ _)).trans rfl)))) (SubR.put_new (bA_i h).1) ?_
      rw [K.lset_eq,List.set_set]
      refine All2.set (CvO.sy (map_getM hs).symm (fun _ x hx=>?_) fun _=>?_) Conv.refl <;> rw [map_getM hs] at *
      · exact ints_le lm (fn1_mem (List.mem_of_mem_take hx))
      · exact Nat.le_trans (List.length_take_le' ..) (Nat.le_trans (Nat.le_of_eq fl) lm)
  · have hM : (den G.V.val (.map t l)).length ≤ (den G.V.val l).length:=Nat.le_of_eq (List.length_map (as:=den G.V.val l) (mapT t))
    have ht : den G.V.val (.fn 1 (.map t l) (.map t l)) = den G.V.val (.take (den G.V.val l).length (.fn 1 (.map t l) (.map t l))):=(List.take_of_length_le (Nat.le_trans (Nat.le_of_eq fl) hM)).symm
    refine All2.set (.sy ht (fun _ x hx=>?_) fun _=>?_) (All2.set (sd_end hM) Conv.refl) <;> rw [← ht] at *
    · exact ints_le (Nat.le_trans hM hN) (fn1_mem hx)
    · exact Nat.le_trans (Nat.le_of_eq fl) (Nat.le_trans hM hN)
noncomputable def plainD : D → Bool:=@D.rec (fun _=>Bool) (fun _=>Bool) true (fun _=>false) (fun _=>true) (fun _=>true) (fun _ ih=>ih) true fun _ _ a b=>bA a b
theorem plain_eq (a : D) : ∀ b,plainD a = true → plainD b = true → eqP (pdD a) (pdD b) = sameD a b:=by
  refine @D.rec (fun a=>∀ b,plainD a = true → plainD b = true → eqP (pdD a) (pdD b) = sameD a b) (fun x=>∀ y,plainD (.tup x) = true → plainD (.tup y) = true → eqP (pdD (.tup x)) (pdD (.tup y)) = sameD (.tup x) (.tup y)) ?_ (fun _ _ h=>nT h) ?_ ?_ ?_ ?_ ?_ a
  · exact fun b _ k=>by cases b <;> first | rfl | exact nT k
  · exact fun i b _ k=>by cases b <;> first | rfl | exact nT k
  · exact fun i b _ k=>by cases b <;> first | rfl | exact nT k
  · exact fun x ih b h k=>by cases b <;> first | exact ih _ h k | rfl | exact nT k
  · exact fun y _ _=>by cases y <;> rfl
  · exact fun a x ia ix y h k=>by
      cases y with
      | nil=>rfl
      | cons b y =>
        show bA (eqP (pdD a) (pdD b)) (eqP (pdD (.tup x)) (pdD (.tup y))) = bA (sameD a b) (sameD (.tup x) (.tup y))
        rw [ia b (bA_i h).1 (bA_i k).1,ix y (bA_i h).2 (bA_i k).2]
theorem idx_plc {x : D} (hx : plainD x = true) {ys : List D} (h : ∀ y ∈ ys,plainD y = true) : ∀ n,idxP (pdD x) (pdDs ys) n = plcN x ys n ∧ anyEq (pdD x) (pdDs ys) = (plcN x ys n).isSome:=by
  induction ys with
  | nil=>exact fun n=>⟨rfl,rfl⟩
  | cons y r ih =>
    intro n
    show bI (eqP (pdD y) (pdD x)) (some n) (idxP (pdD x) (pdDs r) (n + 1)) = bI (sameD y x) (some n) (plcN x r (n + 1)) ∧ bI (eqP (pdD y) (pdD x)) true (anyEq (pdD x) (pdDs r)) = (bI (sameD y x) (some n) (plcN x r (n + 1))).isSome
    rw [plain_eq y x (h y (.head _)) hx]
    cases sameD y x
    · exact ih (fun z hz=>h z (.tail _ hz)) (n + 1)
    · exact ⟨rfl,rfl⟩
theorem idx_ok {x : D} (hx : plainD x = true) {ys : List D} (h : ∀ y ∈ ys,plainD y = true) : IdxOk x ys (plcN x ys 0):=by
  have k:=idx_plc hx h 0
  cases q : plcN x ys 0 with
  | none=>exact k.2.trans (q ▸ rfl)
  | some i=>exact k.1.trans q
noncomputable def tabG (g : D → D) (al : List D) : List (D × Option D):=K.lmap (fun a=>(a,some (g a))) al
theorem tabG_at {g : D → D} {x : D} {al : List D} (h : x ∈ al) : mapT (tabG g al) x = g x:=by
  unfold mapT
  suffices tabD (tabG g al) x = some (g x) by rw [this]; rfl
  induction h with
  | head r=>exact tabD_cons.trans (by rw [sameD_self]; rfl)
  | tail b h ih =>
    refine tabD_cons.trans ?_
    cases q : sameD b x with
    | true=>rw [sameD_eq _ _ q]; rfl
    | false=>exact ih
theorem tabG_mem {g : D → D} {x : D} {al : List D} (h : x ∈ al) : g x ∈ someOf (tabG g al):=someOf_mem (mem_lmap (f:=fun a=>(a,some (g a))) h) rfl
noncomputable def al6 : List D:=.none :: intsTo 6
noncomputable def onI (n : D) (f : Int → D) (a : D) : D:=@D.casesOn (fun _=>D) a n (fun _=>.none) f (fun _=>.none) fun _=>.none
noncomputable def dueG (mi : D) : D → D:=onI mi fun i=>.int (i + 1)
noncomputable def hasG : D → D:=onI (.int 0) fun _=>.int 1
noncomputable def dueT (mi : D) : List (D × Option D):=tabG (dueG mi) al6
noncomputable def hasT : List (D × Option D):=tabG hasG al6
noncomputable def sc148 : Scope:=scOf (stN 148)
noncomputable def b148 (i : Nat) : Stmt:=stAt (bodyOf (stN 148)) i
noncomputable def boE (e : Expr) (i : Nat) : Expr:=@Kd.casesOn (fun _=>Expr) (kindOf e) (fun _=>dE) (fun _=>dE) (fun _ _ _=>dE) (fun _ _ _ _=>dE) (fun _ _ _=>dE) (fun _ es=>(K.nth es i).getD dE) (fun _ _=>dE) (fun _ _ _=>dE) (fun _ _ _=>dE) (fun _ _=>dE) (fun _=>dE) (fun _=>dE) (fun _ _=>dE) (fun _=>dE) (fun _ _ _=>dE) (fun _ _ _ _=>dE) (fun _ _ _=>dE) dE
noncomputable def e962 : Expr:=sa (b148 2) 0
noncomputable def e967 : Expr:=pa (boE (sa (b148 6) 0) 1) 1
noncomputable def e970 : Expr:=pa (retE (b148 8)) 1
noncomputable def T30 : List (D × Option D):=r5.flatMap fun (k : Nat)=>List.replicate 6 (.int (k : Int),some (.int ((k : Int) + 1)))
noncomputable def TS5 : List (List (D × Option D)):=(List.range' 0 5).map fun (k : Nat)=>(.int 0,none) :: List.replicate 6 (.int 1,some (.int (k : Int)))
noncomputable def L970 : LX:=.map T30 (.itab TS5 (.map hasT (.var 4)))
noncomputable def okKeys (nn m : Nat) (al be : List D) (l lt : LX) : Bool:=bA (bA (sameX (.var 2) l) (sameX (.var 3) lt)) (bA (bA (Nat.ble nn 5) (Nat.ble m 6)) (bA (bA (okAll (okD 8) al) (okAll (okD 8) be)) (bA (okAll plainD al) (okAll plainD be))))
noncomputable def keysAt (e : Expr) (x : Str) (ρ : Rho) (σ : Sto) (f : Sto → An) : An:=gd (compSc sc148 (lcSc e) x ρ) (obSy (iterOf (runF 40 T0) sc148 ρ (pa e 2) σ) fun nn al l σ₁=>refAt "table" ρ fun j=>aSy σ₁ j fun m be lt=>gd (okKeys nn m al be l lt) (f σ₁))
noncomputable def datAt {γ : Type} (x : String) (ρ : Rho) (f : D → Option γ) : Option γ:=oo (lk (nm x) ρ) fun v=>vD v f
theorem Sat.datAt {γ : Type} {P : γ → Prop} {x : String} {ρ : Rho} {f : D → Option γ} (k : ∀ d,Mine.lk (nm x) ρ = some (.d d) → Sat (f d) P) : Sat (Mine.datAt x ρ f) P:=.oo fun v e=>by cases v <;> first | exact .no | exact k _ e
noncomputable def F962 : FC:=fun ρ σ=>datAt "missed" ρ fun mi=>keysAt e962 (nm "key") ρ σ fun σ₁=>nw σ₁ (.sy 5 (someOf (dueT mi)) (.map (dueT mi) (.var 4)))
noncomputable def F967 : FC:=fun ρ σ=>keysAt e967 (nm "key") ρ σ fun σ₁=>nw σ₁ (.sy 5 (someOf hasT) (.map hasT (.var 4)))
noncomputable def F970 : FC:=fun ρ σ=>gd (compSc sc148 (lcSc e970) (nm "at") ρ) (obOv (overOf (runF 40 T0) sc148 ρ (pa e970 2) σ) fun nn al l σ₁=>refAt "keys" ρ fun i=>refAt "table" ρ fun j=>aSy σ₁ i fun _ _ l'=>aSy σ₁ j fun m be lt=>gd (bA (sameX (.var 2) l') (okKeys nn m al be l lt)) (nw σ₁ (.sy 5 (someOf T30) L970)))
structure OkKeys (V : Vx) (nn m : Nat) (al be : List D) : Prop where
  hn : nn ≤ 5
  hm : m ≤ 6
  o1 : okAll (okD 8) al = true
  o2 : okAll (okD 8) be = true
  p1 : okAll plainD al = true
  p2 : okAll plainD be = true
theorem okKeys_i {V : Vx} {nn m : Nat} {al be : List D} {l lt : LX} {P : LX → LX → Prop} (h : okKeys nn m al be l lt = true) (k : OkKeys V nn m al be → P (.var 2) (.var 3)) : P l lt:=by
  have h2:=bA_i (bA_i h).2
  have h3:=bA_i h2.2
  rw [← sameX_eq _ _ (bA_i (bA_i h).1).1,← sameX_eq _ _ (bA_i (bA_i h).1).2]
  exact k ⟨Nat.le_of_ble_eq_true (bA_i h2.1).1,Nat.le_of_ble_eq_true (bA_i h2.1).2,(bA_i h3.1).1,(bA_i h3.1).2,(bA_i h3.2).1,(bA_i h3.2).2⟩
structure PlV (V : Vx) : Prop where
  pl : V.val 4 = sem 1 (V.val 2) (V.val 3)
structure KeyA (V : Vx) (σ : Sto) (a : D) (j m : Nat) (be : List D) : Prop where
  ob : σ[j]? = some (.sy m be (.var 3))
  o1 : okD 8 a = true
  o2 : okAll (okD 8) be = true
  hm : m ≤ 6
  idx : FactsOk V { F0 with idx:=[(.var 3,a,plcN a (V.val 3) 0)] }
  len : (V.val 3).length ≤ 6
section
variable {G : Cx} {n : Nat} {sc : Scope} {ρ : Rho} {σ σ₁ σ₂ : Sto} {i j m nn : Nat} {al be : List D} {a : D} {e : Expr}
theorem IfT.one {b : Bool} (h : TstT G n sc e ρ σ b σ₁) : IfT G n sc [e] ρ σ b σ₁:=fun c env cm W E Q s hA X k=>by
  show wpAny _ _ (forIn [e] true _) _ _ _
  rw [List.forIn_cons]
  refine wpAny_bind ?_
  rw [if_pos rfl]
  exact wpAny_bind (h.at hA X fun h₁ tk₁ W₁ X₁ m₁=>wpAny_pure (wpAny_pure (k X₁ m₁)))
theorem keyA_of (K : OkKeys G.V nn m al be) (re : Real G.V σ) (ho : σ[j]? = some (.sy m be (.var 3))) (ha : a ∈ al) : KeyA G.V σ a j m be:=by
  obtain ⟨_,_,_,_,_,hb,hl,_⟩:=re ho
  exact ⟨ho,okAll_mem K.o1 a ha,K.o2,K.hm,factIdx (idx_ok (okAll_mem K.p1 a ha) fun y hy=>okAll_mem K.p2 y (hb y hy)),Nat.le_trans hl K.hm⟩
theorem KeyA.tst (H : KeyA G.V σ a j m be) {l r : Expr} {p : Pos} (hr : known r = true) (h1 : EvT G n sc l ρ σ (.d a) σ) (h2 : EvT G n sc r ρ σ (.ref j) σ) : TstT G n sc (.Compare l [.In] [r] p) ρ σ (plcN a (G.V.val 3) 0).isSome σ:=by
  refine (EvT.cmp H.idx hr h1 h2 ?_).2
  refine (aO_to H.ob).trans ?_
  show gd _ (gd _ (om (idxX _ _ _) _)) = _
  rw [H.o2,H.o1]
  show om (idxX (.var 3) a [(.var 3,a,plcN a (G.V.val 3) 0)]) (fun q=>q.isSome) = _
  rw [idxX_self (l:=.var 3) rfl]
  rfl
theorem sem1_map {g : D → D} {al : List D} (pv : PlV G.V) (h3 : (G.V.val 3).length ≤ 6) : den G.V.val (.map (tabG g al6) (.var 4)) = (G.V.val 2).map fun a=>g (plcD (G.V.val 3) a):=by
  show (G.V.val 4).map (mapT _) = _
  rw [pv.pl]
  refine (List.map_map ..).trans (List.map_congr_left fun a _=>tabG_at (plcD_al h3))
theorem keys_comp (ko : KOk3 G) (pv : PlV G.V) {g : D → D} (he : e = lcOf (nm "key") e) (el : ∀ {σ : Sto} {a m be j},KeyA G.V σ a j m be → lk (nm "table") ρ = some (.ref j) → EvT G 45 (lcSc e) (pa e 0) ((nm "key",.d a) :: ρ) σ (.d (g (plcD (G.V.val 3) a))) σ) {f : Sto → An} (hf : ∀ σ₁,f σ₁ = nw σ₁ (.sy 5 (someOf (tabG g al6)) (.map (tabG g al6) (.var 4)))) : Sat (keysAt e (nm "key") ρ σ f) (U2 (CoP G 45 sc148 e ρ σ)) :=
  .gd fun hcs=>.obSy fun i nn al l σ₁ hi=>.refAt fun j hj=>.aSy fun m be lt ho=>.gd fun hk=>by
    rw [hf]
    refine .nw (okKeys_i (V:=G.V) (P:=fun l lt=>iterOf (runF 40 T0) sc148 ρ (pa e 2) σ = some (.sy i nn al l,σ₁) → σ₁[j]? = some (.sy m be lt) → CoP G 45 sc148 e ρ σ (.ref σ₁.length) (σ₁ ++ [.sy 5 (someOf (tabG g al6)) (.map (tabG g al6) (.var 4))])) hk (fun K hi ho=>?_) hi ho)
    have h3 : Real G.V σ₁ → (G.V.val 3).length ≤ 6:=fun re=>by
      obtain ⟨_,_,_,_,_,_,hl,_⟩:=re ho
      exact Nat.le_trans hl K.hm
    rw [he] at hi hcs ⊢
    refine (comp_list ko (tab0 G) (by decide) hcs hi (y:=fun a=>some (g (plcD (G.V.val 3) a))) (fun re a _ ha=>StepT.ev (he ▸ el (keyA_of K re ho ha) hj)) fun re M=>⟨(sem1_map (al:=al6) pv (h3 re)).trans (congrFun (List.filterMap_eq_map' (f:=fun a=>g (plcD (G.V.val 3) a))) _).symm,fun x hx=>?_,Nat.le_trans (List.length_filterMap_le ..) (Nat.le_trans M.2 K.hn)⟩).co
    obtain ⟨b,_,e⟩:=List.mem_filterMap.mp hx
    exact Option.some.inj e ▸ tabG_mem (plcD_al (h3 re))
end
theorem gle_to {γ : Type} {a b : Nat} {x : Option γ} (h : a ≤ b) : gle a b x = x:=by
  unfold gle
  rw [Nat.ble_eq_true_of_le h]
  rfl
noncomputable def x962 : Expr:=pa e962 0
noncomputable def c962 : Expr:=pa (pa x962 1) 0
theorem e962_shape : e962 = lcOf (nm "key") e962:=by kernel_rfl
theorem elt962 : x962 = .IfExp (.Compare (.Name (nm "key") (pa (pa x962 0) 0).pos) [.In] [.Name (nm "table") (pa (pa x962 0) 1).pos] (pa x962 0).pos) (.BinOp (.Call (.Attribute (.Name (nm "table") (pa (pa c962 0) 0).pos) (nm "index") (pa c962 0).pos) [.Name (nm "key") (pa c962 1).pos] [] c962.pos) .Add (pa (pa x962 1) 1) (pa x962 1).pos) (.Name (nm "missed") (pa x962 2).pos) x962.pos:=by kernel_rfl
noncomputable def x967 : Expr:=pa e967 0
theorem e967_shape : e967 = lcOf (nm "key") e967:=by kernel_rfl
theorem elt967 : x967 = .IfExp (.Compare (.Name (nm "key") (pa (pa x967 0) 0).pos) [.In] [.Name (nm "table") (pa (pa x967 0) 1).pos] (pa x967 0).pos) (pa x967 1) (pa x967 2) x967.pos:=by kernel_rfl
theorem one962 (ρ : Rho) (σ : Sto) : (runF 40 T0).ev (lcSc e962) (pa (pa x962 1) 1) ρ σ = some (.d (.int 1),σ) ∧ (runF 40 T0).ev (lcSc e967) (pa x967 1) ρ σ = some (.d (.int 1),σ) ∧ (runF 40 T0).ev (lcSc e967) (pa x967 2) ρ σ = some (.d (.int 0),σ):=⟨by kernel_rfl,by kernel_rfl,by kernel_rfl⟩
section
variable {G : Cx} (ko : KOk3 G) (pv : PlV G.V)
include ko pv
theorem F962_s : CompOk G 45 (sc148,e962,F962):=fun ρ σ=>.datAt fun mi hmi=>keys_comp ko pv (g:=dueG mi) e962_shape (fun {σ a m be j} H hj=>by
  have v1 : ∀ p,EvT G 45 (lcSc e962) (.Name (nm "key") p) ((nm "key",.d a) :: ρ) σ (.d a) σ:=fun p=>EvT.var ko.toKOk (by kernel_rfl) rfl
  have v2 : ∀ p,EvT G 45 (lcSc e962) (.Name (nm "table") p) ((nm "key",.d a) :: ρ) σ (.ref j) σ:=fun p=>EvT.var ko.toKOk (by kernel_rfl) hj
  show EvT G 45 _ x962 _ _ _ _
  rw [elt962]
  have tst:=H.tst (p:=(pa x962 0).pos) (by kernel_rfl) (v1 (pa (pa x962 0) 0).pos) (v2 (pa (pa x962 0) 1).pos)
  unfold plcD
  cases q : plcN a (G.V.val 3) 0 with
  | none =>
    rw [q] at tst
    exact EvT.ite tst (EvT.var ko.toKOk (by kernel_rfl) hmi)
  | some k =>
    rw [q] at tst
    refine EvT.ite tst (EvT.bin (EvT.methB ko.toKOk (me:=.lindex) (sv:=.d (.int (k : Int))) H.idx (by kernel_rfl) (by kernel_rfl) (by decide) (v2 _) (.cons (by kernel_rfl) (v1 _) .nil) ((aO_to H.ob).trans (by kernel_rfl)) rfl ((congrArg (fun z=>intA z σ) (aO_to H.ob)).trans ?_)) (EvT.le (EvT.run ko (tab0 G) (one962 _ _).1) (by decide)) (BinT.run rfl))
    show intA (gd (okAll (okD 8) be) (gd (okD 8 a) (gle m 5000 (oo (idxX (.var 3) a [(.var 3,a,plcN a (G.V.val 3) 0)]) fun q=>q)))) σ = _
    rw [H.o2,H.o1,gle_to (Nat.le_trans H.hm (by decide)),idxX_self (l:=.var 3) rfl,q]
    rfl) fun _=>rfl
theorem F967_s : CompOk G 45 (sc148,e967,F967):=fun ρ σ=>keys_comp ko pv (g:=hasG) e967_shape (fun {σ a m be j} H hj=>by
  show EvT G 45 _ x967 _ _ _ _
  rw [elt967]
  have tst:=H.tst (p:=(pa x967 0).pos) (by kernel_rfl) (EvT.var ko.toKOk (x:=nm "key") (p:=(pa (pa x967 0) 0).pos) (ρ:=(nm "key",.d a) :: ρ) (sc:=lcSc e967) (n:=45) (by kernel_rfl) rfl) (EvT.var ko.toKOk (x:=nm "table") (p:=(pa (pa x967 0) 1).pos) (by kernel_rfl) hj)
  unfold plcD
  cases q : plcN a (G.V.val 3) 0 with
  | none =>
    rw [q] at tst
    exact EvT.ite tst (EvT.le (EvT.run ko (tab0 G) (one962 _ _).2.2) (by decide))
  | some k =>
    rw [q] at tst
    exact EvT.ite tst (EvT.le (EvT.run ko (tab0 G) (one962 _ _).2.1) (by decide))) fun _=>rfl
end
theorem hasD_i {x : D} {l : List D} (h : hasD x l = true) : x ∈ l:=by
  induction l with
  | nil=>exact nT h
  | cons y l ih =>
    have h : bI (sameD y x) true (hasD x l) = true:=h
    cases q : sameD y x with
    | true=>exact sameD_eq _ _ q ▸ .head _
    | false=>rw [q] at h; exact .tail _ (ih h)
theorem T30_at : ∀ k ∈ r5,mapT T30 (.int ((k : Nat) : Int)) = .int ((k : Int) + 1) ∧ D.int ((k : Int) + 1) ∈ someOf T30:=two ⟨rfl,hasD_i rfl⟩ (two ⟨rfl,hasD_i rfl⟩ (two ⟨rfl,hasD_i rfl⟩ (two ⟨rfl,hasD_i rfl⟩ (two ⟨rfl,hasD_i rfl⟩ zero))))
noncomputable def selY (p : D → Bool) (f : Nat → D) (X : List D) (k : Nat) : Option D:=oo X[k]? fun a=>bI (p a) (some (f k)) none
theorem idxMap_sel {TT : Nat → List (D × Option D)} {g : D → D} {y : Nat → Option D} (X : List D) : ∀ {k N},X.length ≤ N → (∀ i a,X[i]? = some a → tabD (TT (k + i)) (g a) = y (k + i)) → idxMap ((List.range' k N).map TT) (X.map g) = (List.range' k X.length).filterMap y:=by
  induction X with
  | nil=>exact fun {k N} _ _=>by cases N <;> rfl
  | cons a r ih =>
    intro k N hN h
    cases N with
    | zero=>exact absurd hN (Nat.not_succ_le_zero _)
    | succ N =>
      have t:=ih (k:=k + 1) (Nat.le_of_succ_le_succ hN) fun i b hb=>by
        have:=h (i + 1) b hb
        rw [Nat.add_right_comm,Nat.add_assoc]
        exact this
      show @Option.rec D (fun _=>List D) (idxMap ((List.range' (k + 1) N).map TT) (r.map g)) (fun y=>y :: idxMap ((List.range' (k + 1) N).map TT) (r.map g)) (tabD (TT k) (g a)) = (k :: List.range' (k + 1) r.length).filterMap y
      rw [show tabD (TT k) (g a) = y k from h 0 a rfl,t,List.filterMap_cons]
      cases y k <;> rfl
noncomputable def has4 (V : Vx) (a : D) : Bool:=(plcN a (V.val 3) 0).isSome
theorem tab_has {V : Vx} {k : Nat} {a : D} : tabD ((.int 0,none) :: List.replicate 6 (.int 1,some (.int (k : Int)))) (hasG (plcD (V.val 3) a)) = bI (has4 V a) (some (.int (k : Int))) none:=by
  unfold has4 plcD
  cases plcN a (V.val 3) 0 <;> rfl
theorem fm_congr {f g : Nat → Option D} {l : List Nat} (h : ∀ k ∈ l,f k = g k) : l.filterMap f = l.filterMap g:=by
  induction l with
  | nil=>rfl
  | cons a l ih=>rw [List.filterMap_cons,List.filterMap_cons,h a (.head _),ih fun k hk=>h k (.tail _ hk)]
theorem den970 {V : Vx} (pv : PlV V) (h2 : (V.val 2).length ≤ 5) (h3 : (V.val 3).length ≤ 6) : den V.val L970 = (List.range' 0 (V.val 2).length).filterMap (selY (has4 V) (fun (k : Nat)=>D.int ((k : Int) + 1)) (V.val 2)):=by
  have e : (V.val 4).map (mapT hasT) = (V.val 2).map fun a=>hasG (plcD (V.val 3) a):=sem1_map (G:=⟨V,[],[],default,[],fun _=>none,fun _=>none⟩) (al:=al6) pv h3
  show (idxMap TS5 ((V.val 4).map (mapT hasT))).map (mapT T30) = _
  rw [e]
  show (idxMap ((List.range' 0 5).map fun (k : Nat)=>(.int 0,none) :: List.replicate 6 (.int 1,some (.int (k : Int)))) _).map _ = _
  rw [idxMap_sel (y:=selY (has4 V) (fun (k : Nat)=>D.int (k : Int)) (V.val 2)) (V.val 2) h2 fun i a ha=>by rw [Nat.zero_add]; unfold selY; rw [ha]; exact tab_has,List.map_filterMap]
  refine fm_congr fun k hk=>?_
  have hk : k < (V.val 2).length:=Nat.zero_add (V.val 2).length ▸ (List.mem_range'_1.mp hk).2
  unfold selY
  rw [List.getElem?_eq_getElem hk]
  show Option.map _ (bI (has4 V _) _ none) = bI (has4 V _) _ none
  cases has4 V (V.val 2)[k] with
  | false=>rfl
  | true=>exact congrArg some (T30_at k (mem5 (Nat.lt_of_lt_of_le hk h2))).1
noncomputable def t970 : Expr:=pa e970 3
noncomputable def x970 : Expr:=pa e970 0
theorem e970_shape : e970 = .ListComp x970 [⟨.Name (nm "at") (pa e970 1).pos,pa e970 2,[.Compare (.Subscript (.Name (nm "keys") (pa (pa t970 0) 0).pos) (.Name (nm "at") (pa (pa t970 0) 1).pos) (pa t970 0).pos) [.In] [.Name (nm "table") (pa t970 1).pos] t970.pos],0⟩] (lcSc e970) e970.pos:=by kernel_rfl
theorem elt970 : x970 = .BinOp (.Name (nm "at") (pa x970 0).pos) .Add (pa x970 1) x970.pos:=by kernel_rfl
theorem one970 (ρ : Rho) (σ : Sto) : (runF 40 T0).ev (lcSc e970) (pa x970 1) ρ σ = some (.d (.int 1),σ):=by kernel_rfl
theorem atX_self {l : LX} {k : Nat} {x : D} (h : sameX l l = true) : atX l k [(l,k,x)] = some x:=by
  unfold atX
  rw [findB_one (f:=fun (p : LX × Nat × D)=>bA (Nat.beq p.2.1 k) (sameX p.1 l)) (a:=(l,k,x)) (bA_to (Nat.beq_refl k) h)]
  rfl
theorem sub_at {F : Facts} {σ : Sto} {i k : Nat} {o : SO} (h : σ[i]? = some o) (hk : k < 1000) : sub F (.ref i) (.d (.int (k : Int))) σ = atO F o k:=by
  show gd (Nat.blt k 4611686018427387904) (aO σ i fun o=>atO F o k) = _
  rw [Nat.blt_eq.mpr (Nat.lt_trans hk (by decide)),aO_to h]
  rfl
theorem F970_s {G : Cx} (ko : KOk3 G) (pv : PlV G.V) : CompOk G 45 (sc148,e970,F970):=fun ρ σ=>.gd fun hcs=>.obOv fun nn al l σ₁ hi=>.refAt fun i hi'=>.refAt fun j hj=>.aSy fun _ _ l' ho'=>.aSy fun m be lt ho=>.gd fun hk=>.nw (okKeys_i (V:=G.V) (P:=fun l lt=>overOf (runF 40 T0) sc148 ρ (pa e970 2) σ = some (nn,al,l,σ₁) → σ₁[j]? = some (.sy m be lt) → CoP G 45 sc148 e970 ρ σ (.ref σ₁.length) (σ₁ ++ [.sy 5 (someOf T30) L970])) (bA_i hk).2 (fun K hi ho=>by
  rw [← sameX_eq _ _ (bA_i hk).1] at ho'
  have h3 : Real G.V σ₁ → (G.V.val 3).length ≤ 6:=fun re=>by
    obtain ⟨_,_,_,_,_,_,hl,_⟩:=re ho
    exact Nat.le_trans hl K.hm
  rw [e970_shape]
  refine (comp_over ko (tab0 G) (by decide) hcs hi (y:=selY (has4 G.V) (fun (k : Nat)=>D.int ((k : Int) + 1)) (G.V.val 2)) (fun re M k hk=>?_) fun re M=>⟨den970 pv (Nat.le_trans M.2 K.hn) (h3 re),fun x hx=>?_,Nat.le_trans (List.length_filterMap_le ..) (Nat.le_trans (Nat.le_of_eq (List.length_range' ..)) (Nat.le_trans M.2 K.hn))⟩).co
  · have hk : k < (G.V.val 2).length:=hk
    have ha : (G.V.val 2)[k]? = some ((G.V.val 2)[k]):=List.getElem?_eq_getElem hk
    have H:=keyA_of K re ho (M.1 _ (List.getElem_mem hk))
    have v1 : ∀ p,EvT G 45 (lcSc e970) (.Name (nm "at") p) ((nm "at",.d (.int (k : Int))) :: ρ) σ₁ (.d (.int (k : Int))) σ₁:=fun p=>EvT.var ko.toKOk (by kernel_rfl) rfl
    have tst:=H.tst (p:=t970.pos) (by kernel_rfl) (EvT.sub (p:=(pa t970 0).pos) (factAt (V:=G.V) (l:=.var 2) ha) (EvT.var ko.toKOk (ρ:=(nm "at",.d (.int (k : Int))) :: ρ) (x:=nm "keys") (p:=(pa (pa t970 0) 0).pos) (by kernel_rfl) hi') (v1 (pa (pa t970 0) 1).pos) ((sub_at ho' (Nat.lt_of_lt_of_le hk (Nat.le_trans M.2 (Nat.le_trans K.hn (by decide))))).trans ?_)) (EvT.var ko.toKOk (x:=nm "table") (p:=(pa t970 1).pos) (by kernel_rfl) hj)
    · unfold selY
      rw [ha]
      show StepT G 45 _ _ _ _ _ ((bI (has4 G.V _) _ none).map .d) _
      have tst : TstT G 45 _ _ _ _ (has4 G.V _) _:=tst
      cases q : has4 G.V (G.V.val 2)[k] with
      | false=>rw [q] at tst; exact .skip (.one tst)
      | true =>
        rw [q] at tst
        refine .take (.one tst) ?_
        rw [elt970]
        exact EvT.bin (v1 _) (EvT.le (EvT.run ko (tab0 G) (one970 _ _)) (by decide)) (BinT.run rfl)
    · show om (atX (.var 2) k [(.var 2,k,(G.V.val 2)[k])]) SV.d = _
      rw [atX_self (l:=.var 2) rfl]
      rfl
  · obtain ⟨k,hk,e⟩:=List.mem_filterMap.mp hx
    have hk : k < (G.V.val 2).length:=Nat.zero_add (G.V.val 2).length ▸ (List.mem_range'_1.mp hk).2
    unfold selY at e
    rw [List.getElem?_eq_getElem hk] at e
    have e : bI (has4 G.V (G.V.val 2)[k]) (some (D.int ((k : Int) + 1))) none = some x:=e
    cases q : has4 G.V (G.V.val 2)[k] with
    | false=>rw [q] at e; exact nS e
    | true=>rw [q] at e; exact Option.some.inj e ▸ (T30_at k (mem5 (Nat.lt_of_lt_of_le hk (Nat.le_trans M.2 K.hn)))).2) hi ho)
noncomputable def instE (kind : D) (i : Nat) (attrs : SV) : List (Str × SV):=[(nm "kind",.d kind),(nm "items",.ref i),(nm "attrs",attrs),(nm "shared",.d (.bool false)),(nm "loose",.d (.bool false))]
noncomputable def instDi (kind : D) (b : Nat) (attrs : SV) : SO:=.di (instE kind (b + 2) attrs)
noncomputable def vecO (b : Nat) (kind : D) (o : SO) (attrs : SV) : Sto:=[.inst 304 (b + 1),instDi kind b attrs,o]
noncomputable def chrO (b : Nat) (o : SO) : Sto:=vecO b (sD "character") o (.d .none)
noncomputable def codeT : List (D × Option D):=[(sD "b",some (.int 2)),(sD "1",some (.int 3)),(sD "0.5",some (.int 1)),(.none,some .none)]
noncomputable def digS (k : Nat) : D:=.str (Str.ofString "e" ++ strI k)
noncomputable def nmsT (w : Nat) : List (List (D × Option D)):=r5.map fun k=>(mnu w).map fun a=>(a,some (digS k))
noncomputable def nmsO (w : Nat) : SO:=.sy 5 (someOfs (nmsT w)) (.itab (nmsT w) (.var 0))
noncomputable def isFac (w : Nat) : Bool:=Nat.beq w 4
noncomputable def itemsO (w iv : Nat) : SO:=bI (isFac w) (.sy 5 [.int 2,.int 3,.int 1,.none] (.map codeT (.var iv))) (.sy 5 (mnu w) (.var iv))
noncomputable def knd (w : Nat) : D:=bI (isFac w) (sD "integer") (srt w)
noncomputable def lvlS (b : Nat) : Sto:=K.app (chrO (b + 4) (.dl [sD "0.5",sD "b",sD "1"])) (chrO (b + 7) (.dl [sD "factor"]))
noncomputable def uT (f nmf : Bool) (b : Nat) (n : SO) : Sto:=bI f
  (bI nmf (.di [(nm "levels",.ref (b + 4)),(nm "class",.ref (b + 7)),(nm "names",.ref (b + 10))] :: K.app (lvlS b) (chrO (b + 10) n)) (.di [(nm "levels",.ref (b + 4)),(nm "class",.ref (b + 7))] :: lvlS b))
  (bI nmf (.di [(nm "names",.ref (b + 4))] :: chrO (b + 4) n) [])
noncomputable def uG (f nmf : Bool) (b : Nat) (d i n : SO) : Sto:=.inst 304 (b + 1) :: d :: i :: uT f nmf b n
noncomputable def atV (a : Bool) (b : Nat) : SV:=bI a (.ref (b + 3)) (.d .none)
noncomputable def uS (w : Nat) (nmf : Bool) (b iv : Nat) : Sto:=uG (isFac w) nmf b (instDi (knd w) b (atV (isFac w || nmf) b)) (itemsO w iv) (nmsO w)
noncomputable def uLen (f nmf : Bool) : Nat:=bI f (bI nmf 13 10) (bI nmf 7 3)
noncomputable def uvS (w1 w2 : Nat) (nmf : Bool) : Sto:=K.app (uS w1 nmf 0 0) (uS w2 false (uLen (isFac w1) nmf) 1)
noncomputable def uvN0 (f1 nmf f2 : Bool) : Nat:=uLen f1 nmf + uLen f2 false
noncomputable def textT : List (D × Option D):=[(tD 0 1,some (sD "0")),(tD 1 1,some (sD "1")),(tD 2 1,some (sD "2")),(tD (-1) 1,some (sD "-1")),(tD 1 2,some (sD "0.5")),(tD 0 0,some (sD "NaN")),(tD 1 0,some (sD "Inf"))]
noncomputable def keyN (w : Nat) (a : D) : D:=bI (Nat.beq w 2) a (.tup [a,.int 1])
noncomputable def keyD (w : Nat) (b : Bool) (a : D) : D:=bI (sameD a .none) .none (bI (Nat.ble 3 w) a (bI (bA b (Nat.beq w 0)) (bI (sameD a (.int 0)) (sD "FALSE") (sD "TRUE")) (bI b (mapT textT (keyN w a)) (keyN w a))))
noncomputable def asT (w1 w2 : Nat) : Bool:=Nat.ble 3 w1 || Nat.ble 3 w2
noncomputable def img : LX → D → D:=@LX.rec (fun _=>D → D) (fun _ a=>a) (fun _ a=>a) (fun t _ ih a=>mapT t (ih a)) (fun _ _ _ a=>a) (fun _ _ _ a=>a) (fun _ _ _ _ a=>a) (fun _ _ a=>a) (fun _ _ _ a=>a) (fun _ _ _ a=>a) fun _ _ _ _ _ a=>a
noncomputable def baseV : LX → Option Nat:=@LX.rec (fun _=>Option Nat) some (fun _=>none) (fun _ _ ih=>ih) (fun _ _ _=>none) (fun _ _ _=>none) (fun _ _ _ _=>none) (fun _ _=>none) (fun _ _ _=>none) (fun _ _ _=>none) fun _ _ _ _ _=>none
theorem den_img {val : Nat → List D} (l : LX) : Sat (baseV l) fun i=>den val l = (val i).map (img l):=by
  induction l with
  | var j=>exact .yes (List.map_id' _).symm
  | map t l ih=>exact ih.mono fun i h=>(congrArg (List.map (mapT t)) h).trans (List.map_map ..)
  | _=>exact .no
noncomputable def eqBo (a b : Bool) : Bool:=bI a b (!b)
theorem eqBo_i {a b : Bool} (h : eqBo a b = true) : a = b:=by cases a <;> cases b <;> first | rfl | exact nT h
noncomputable def goodKeys (w1 w2 : Nat) (A B : LX) : Bool:=allL (fun a=>allL (fun b=>eqBo (sameD (img B b) (img A a)) (sameD (keyD w2 (asT w1 w2) b) (keyD w1 (asT w1 w2) a))) (mnu w2)) (mnu w1)
theorem plcN_same {f g f' g' : D → D} {a : D} {ys : List D} (h : ∀ b ∈ ys,sameD (g b) (f a) = sameD (g' b) (f' a)) : ∀ n,plcN (f a) (ys.map g) n = plcN (f' a) (ys.map g') n:=by
  induction ys with
  | nil=>exact fun _=>rfl
  | cons b r ih =>
    intro n
    show bI (sameD (g b) (f a)) (some n) (plcN (f a) (r.map g) (n + 1)) = bI (sameD (g' b) (f' a)) (some n) (plcN (f' a) (r.map g') (n + 1))
    rw [h b (.head _),ih (fun c hc=>h c (.tail _ hc)) (n + 1)]
theorem sem_same {f g f' g' : D → D} {xs ys : List D} (h : ∀ a ∈ xs,∀ b ∈ ys,sameD (g b) (f a) = sameD (g' b) (f' a)) : sem 1 (xs.map f) (ys.map g) = sem 1 (xs.map f') (ys.map g'):=by
  show (xs.map f).map (plcD (ys.map g)) = (xs.map f').map (plcD (ys.map g'))
  rw [List.map_map,List.map_map]
  refine List.map_congr_left fun a ha=>?_
  show plcD _ (f a) = plcD _ (f' a)
  unfold plcD
  rw [plcN_same (h a ha)]
noncomputable def TM : Tab:=tabOf 50 F0 [] [(sc122,e815,F815)] [(sc122,s813,F813),(sc116,s779,F779)]
noncomputable def lxFn {γ : Type} (l : LX) (f : Nat → LX → LX → Option γ) : Option γ:=@LX.casesOn (fun _=>Option γ) l (fun _=>none) (fun _=>none) (fun _ _=>none) (fun _ _=>none) (fun _ _=>none) (fun _ _=>none) (fun _=>none) (fun _ _=>none) (fun _ _=>none) f
theorem Sat.lxFn {γ : Type} {P : LX → γ → Prop} {l : LX} {f : Nat → LX → LX → Option γ} (k : ∀ k a b,Sat (f k a b) (P (.fn k a b))) : Sat (Mine.lxFn l f) (P l):=by cases l <;> first | exact k _ _ _ | exact .no
noncomputable def mpR (w1 w2 : Nat) (nmf : Bool) : Option Unit:=ob (callG 120 TM 815 [.ref 0,.ref (uLen (isFac w1) nmf)] (uvS w1 w2 nmf)) fun v σ'=>gd (sameV v (.ref (uvN0 (isFac w1) nmf (isFac w2)))) (aSy σ' (uvN0 (isFac w1) nmf (isFac w2)) fun nn al l=>gd (sto2 (K.app (uvS w1 w2 nmf) [.sy nn al l]) σ')
  (lxFn l fun k A B=>gd (bA (Nat.beq k 1) (Nat.ble nn 5)) (oo (baseV A) fun i=>oo (baseV B) fun j=>gd (bA (Nat.beq i 0) (Nat.beq j 1)) (gd (goodKeys w1 w2 A B) (some ())))))
structure LawV (V : Vx) (w1 w2 : Nat) : Prop where
  k2 : V.val 2 = (V.val 0).map (keyD w1 (asT w1 w2))
  k3 : V.val 3 = (V.val 1).map (keyD w2 (asT w1 w2))
  p4 : V.val 4 = sem 1 (V.val 2) (V.val 3)
  m0 : ∀ a ∈ V.val 0,a ∈ mnu w1
  m1 : ∀ a ∈ V.val 1,a ∈ mnu w2
  l0 : (V.val 0).length ≤ 5
  l1 : (V.val 1).length ≤ 5
section
variable {G : Cx} (ko : KOk3 G)
include ko
theorem TM_ok : TabOk G TM:=tabOf_ok (FactsOk.nil G.V []) zero (two (fun ρ σ=>(F815_s ko ρ σ).mono fun _ h=>CoP.le h (by decide)) zero) (two (fun ρ σ=>(F813_s ko ρ σ).mono fun _ h=>StT.le h (by decide)) (two (fun ρ σ=>(F779_s ko ρ σ).mono fun _ h=>StT.le h (by decide)) zero))
theorem mp_s {w1 w2 : Nat} {nmf : Bool} (lv : LawV G.V w1 w2) : Sat (mpR w1 w2 nmf) fun _=>FnT G 120 815 [.ref 0,.ref (uLen (isFac w1) nmf)] (uvS w1 w2 nmf) (.ref (uvN0 (isFac w1) nmf (isFac w2))) (K.app (uvS w1 w2 nmf) [.sy 5 al6 (.var 4)]) :=
  .bS (Q:=FnT G 120 815 [.ref 0,.ref (uLen (isFac w1) nmf)] (uvS w1 w2 nmf)) (fun r e=>FnT.run ko (TM_ok ko) e) fun v σ' h=>.gd fun hv=>.aSy fun nn al l ho=>.gd fun hs=>(Sat.lxFn (P:=fun l _=>FnT G 120 815 [.ref 0,.ref (uLen (isFac w1) nmf)] (uvS w1 w2 nmf) (.ref (uvN0 (isFac w1) nmf (isFac w2))) (K.app (uvS w1 w2 nmf) [.sy nn al l]) → _) fun k A B=>.gd fun hk=>.oo fun i hi=>.oo fun j hj=>.gd fun hij=>.gd fun hg=>.yes fun h=>by
    refine h.conv Conv.refl ?_
    rw [K.app_eq,K.app_eq]
    refine All2.app (.one (.sy ?_ (fun _ x hx=>?_) fun hl=>Nat.le_trans hl (Nat.le_of_ble_eq_true (bA_i hk).2))) Conv.refl
    all_goals
      cases Nat.eq_of_beq_eq_true (bA_i hk).1
      cases Nat.eq_of_beq_eq_true (bA_i hij).1
      cases Nat.eq_of_beq_eq_true (bA_i hij).2
    · show G.V.val 4 = sem 1 (den G.V.val A) (den G.V.val B)
      rw [den_img A hi,den_img B hj,lv.p4,lv.k2,lv.k3]
      exact (sem_same fun a ha b hb=>eqBo_i (allL_i (allL_i hg a (lv.m0 a ha)) b (lv.m1 b hb))).symm
    · obtain ⟨y,_,rfl⟩:=List.mem_map.mp (show x ∈ (den G.V.val A).map (plcD (den G.V.val B)) from hx)
      refine plcD_al ?_
      rw [den_img B hj,List.length_map]
      exact Nat.le_trans lv.l1 (by decide)).mono fun _ z=>z (sto2_i hs ▸ sameV_eq _ _ hv ▸ h)
end
noncomputable def mpB (w1 : Nat) : Bool:=allL (fun w2=>allL (fun n=>(mpR w1 w2 n).isSome) [false,true]) r5
theorem k815_0 : mpB 0 = true:=by kernel_rfl
theorem k815_1 : mpB 1 = true:=by kernel_rfl
theorem k815_2 : mpB 2 = true:=by kernel_rfl
theorem k815_3 : mpB 3 = true:=by kernel_rfl
theorem k815_4 : mpB 4 = true:=by kernel_rfl
theorem mp_ok {G : Cx} (ko : KOk3 G) {w1 w2 : Nat} (h1 : w1 < 5) (h2 : w2 < 5) (nmf : Bool) (lv : LawV G.V w1 w2) : FnT G 120 815 [.ref 0,.ref (uLen (isFac w1) nmf)] (uvS w1 w2 nmf) (.ref (uvN0 (isFac w1) nmf (isFac w2))) (K.app (uvS w1 w2 nmf) [.sy 5 al6 (.var 4)]):=by
  have h : ∀ w ∈ r5,mpB w = true:=two k815_0 (two k815_1 (two k815_2 (two k815_3 (two k815_4 zero))))
  have h:=allL_i (allL_i (h w1 (mem5 h1)) w2 (mem5 h2)) nmf (by cases nmf <;> first | exact .head _ | exact .tail _ (.head _))
  obtain ⟨u,e⟩:=Option.isSome_iff_exists.mp h
  exact mp_s ko lv e
section
variable {V : Vx} {k : Nat}
theorem sy_as {n : Nat} {al : List D} {l : LX} (h : V.tm k = .sy n al l) : CvO V V (.sy n al l) (.as k []) ∧ CvO V V (.as k []) (.sy n al l):=⟨fun _ _ r=>⟨[],.nil,h ▸ r⟩,fun kn ob ⟨as,_,r⟩=>(h ▸ r : RelA V ⟨kn.tps,as⟩ (.sy n al l) ob)⟩
theorem atAll_of {ad : List Addr} {π : List Nat} (h : ∀ i ∈ π,∃ a,ad[i]? = some a) : ∃ as,AtAll ad π as:=by
  induction π with
  | nil=>exact ⟨[],.nil⟩
  | cons i π ih =>
    obtain ⟨a,ha⟩:=h i (.head _)
    obtain ⟨as,h⟩:=ih fun j hj=>h j (.tail _ hj)
    exact ⟨a :: as,.cons ha h⟩
structure OkB (π : List Nat) (es es' : List (Str × SV)) : Prop where
  to : mapE (fun i=>posN i π 0) es = some es'
  back : mapE (fun j=>K.nth π j) es' = some es
  has : ∀ i ∈ π,∃ x,lk x es = some (.ref i)
theorem OkB.cv {π : List Nat} {es es' : List (Str × SV)} (B : OkB π es es') (h : V.tm k = .di es') : CvO V V (.di es) (.as k π) ∧ CvO V V (.as k π) (.di es):=by
  refine ⟨fun kn ob ⟨nd,ds,n,e,re⟩=>?_,fun kn ob ⟨as,ha,r⟩=>?_⟩
  · obtain ⟨as,ha⟩:=atAll_of (ad:=kn.ad) fun i hi=>let ⟨x,hx⟩:=B.has i hi; let ⟨_,_,a,ha,_⟩:=re.get hx; ⟨a,ha⟩
    have m:=mapE_s (tps:=kn.tps) (P:=V.w.params) (ren_pos ha) es B.to
    exact ⟨as,ha,h ▸ ⟨(congrArg List.Nodup m.1).mpr nd,ds,n,e,m.2 re⟩⟩
  · rw [h] at r
    obtain ⟨nd,ds,n,e,re⟩:=r
    have m:=mapE_s (tps:=kn.tps) (P:=V.w.params) (ad:=as) (ad':=kn.ad) (f:=fun j=>K.nth π j) (fun i j a hf ha'=>let ⟨a',h1,h2⟩:=ha.get (nth_eq π i ▸ hf); (Option.some.inj (ha'.symm.trans h1)) ▸ h2) es' B.back
    exact ⟨(congrArg List.Nodup m.1).mpr nd,ds,n,e,m.2 re⟩
noncomputable def refsB (a : Bool) (b : Nat) : List Nat:=bI a [b + 2,b + 3] [b + 2]
noncomputable def tmE (kind : D) (a : Bool) : List (Str × SV):=instE kind 0 (bI a (.ref 1) (.d .none))
theorem okB (kind : D) (a f nmf : Bool) (z : Bool) : OkB (refsB a (bI z 0 (uLen f nmf))) (instE kind (bI z 0 (uLen f nmf) + 2) (atV a (bI z 0 (uLen f nmf)))) (tmE kind a):=by
  cases z <;> cases f <;> cases nmf <;> cases a <;> first | exact ⟨rfl,rfl,two ⟨nm "items",rfl⟩ zero⟩ | exact ⟨rfl,rfl,two ⟨nm "items",rfl⟩ (two ⟨nm "attrs",rfl⟩ zero)⟩
noncomputable def uN (f nmf : Bool) (b k : Nat) : Sto:=uG f nmf b (.as k (refsB (f || nmf) b)) (.as (k + 1) []) (.as (k + 2) [])
structure NamesV (V : Vx) (w : Nat) (nmf : Bool) (iv k : Nat) : Prop where
  d : V.tm k = .di (tmE (knd w) (isFac w || nmf))
  i : V.tm (k + 1) = itemsO w iv
  n : V.tm (k + 2) = nmsO w
theorem items_as {w iv : Nat} (h : V.tm k = itemsO w iv) : CvO V V (itemsO w iv) (.as k []) ∧ CvO V V (.as k []) (itemsO w iv):=by
  unfold itemsO at h ⊢
  revert h
  cases isFac w <;> exact fun h=>sy_as h
theorem uT_cv {f nmf : Bool} {b : Nat} {n n' : SO} (h : CvO V V n n') : Conv V V (uT f nmf b n) (uT f nmf b n'):=by
  cases f <;> cases nmf
  · exact .nil
  · exact .cons .refl (.cons .refl (.cons .refl (.one h)))
  · exact Conv.refl
  · exact .cons .refl (.cons .refl (.cons .refl (.cons .refl (.cons .refl (.cons .refl (.cons .refl (.cons .refl (.cons .refl (.one h)))))))))
theorem u_named {w : Nat} {nmf : Bool} {iv b : Nat} (nv : NamesV V w nmf iv k) (B : OkB (refsB (isFac w || nmf) b) (instE (knd w) (b + 2) (atV (isFac w || nmf) b)) (tmE (knd w) (isFac w || nmf))) : Conv V V (uS w nmf b iv) (uN (isFac w) nmf b k) ∧ Conv V V (uN (isFac w) nmf b k) (uS w nmf b iv) :=
  ⟨.cons .refl (.cons (B.cv nv.d).1 (.cons (items_as nv.i).1 (uT_cv (sy_as nv.n).1))),.cons .refl (.cons (B.cv nv.d).2 (.cons (items_as nv.i).2 (uT_cv (sy_as nv.n).2)))⟩
noncomputable def uvN (f1 nmf f2 : Bool) : Sto:=K.app (uN f1 nmf 0 0) (uN f2 false (uLen f1 nmf) 3)
theorem uv_named {w1 w2 : Nat} {nmf : Bool} (n1 : NamesV V w1 nmf 0 0) (n2 : NamesV V w2 false 1 3) : Conv V V (uvS w1 w2 nmf) (uvN (isFac w1) nmf (isFac w2)) ∧ Conv V V (uvN (isFac w1) nmf (isFac w2)) (uvS w1 w2 nmf):=by
  have a:=u_named n1 (okB (knd w1) (isFac w1 || nmf) false false true)
  have c:=u_named n2 (okB (knd w2) (isFac w2 || false) (isFac w1) nmf false)
  unfold uvS uvN
  rw [K.app_eq,K.app_eq]
  exact ⟨All2.app c.1 a.1,All2.app c.2 a.2⟩
end
theorem mpN_ok {G : Cx} (ko : KOk3 G) {w1 w2 : Nat} {nmf : Bool} (h1 : w1 < 5) (h2 : w2 < 5) (lv : LawV G.V w1 w2) (n1 : NamesV G.V w1 nmf 0 0) (n2 : NamesV G.V w2 false 1 3) :
    FnT G 120 815 [.ref 0,.ref (uLen (isFac w1) nmf)] (uvN (isFac w1) nmf (isFac w2)) (.ref (uvN0 (isFac w1) nmf (isFac w2))) (K.app (uvN (isFac w1) nmf (isFac w2)) [.sy 5 al6 (.var 4)]):=by
  have c:=uv_named (nmf:=nmf) n1 n2
  refine FnT.conv (mp_ok ko h1 h2 nmf lv) c.2 ?_
  rw [K.app_eq,K.app_eq]
  exact All2.app Conv.refl c.1
noncomputable def sc144 : Scope:=scOf (stN 144)
noncomputable def b144 (i : Nat) : Stmt:=stAt (bodyOf (stN 144)) i
noncomputable def if2 : Stmt:=stAt (sb (b144 1) 1) 0
noncomputable def tA : Expr:=sa (b144 1) 0
noncomputable def tB : Expr:=sa if2 0
noncomputable def sBr (b : Nat) : Stmt:=(K.nth [stAt (sb (b144 1) 0) 0,stAt (sb if2 0) 0] b).getD (stAt (sb if2 1) 0)
theorem body144 : bodyOf (stN 144) = [b144 0,.If (.Compare (.Name (nm "style") (pa tA 0).pos) [.Eq] [pa tA 1] tA.pos) [sBr 0] [.If (.Compare (.Name (nm "style") (pa tB 0).pos) [.Eq] [pa tB 1] tB.pos) [sBr 1] [sBr 2] if2.pos] (b144 1).pos,b144 2]:=by kernel_rfl
theorem tAB_2 (ρ : Rho) (σ : Sto) : (runF 40 T0).ev sc144 (pa tA 1) ρ σ = some (.d (.int 0),σ) ∧ (runF 40 T0).ev sc144 (pa tB 1) ρ σ = some (.d (.int 1),σ):=⟨by kernel_rfl,by kernel_rfl⟩
noncomputable def nextO {γ : Type} (o : Out) (x : Option γ) : Option γ:=@Out.casesOn (fun _=>Option γ) o x none none fun _=>none
theorem Sat.nextO {γ : Type} {P : Out → γ → Prop} {o : Out} {x : Option γ} (k : Sat x (P .next)) : Sat (Mine.nextO o x) (P o):=by cases o <;> first | exact k | exact .no
noncomputable def head935 (T : Tab) (args : List SV) (σ : Sto) : Option (Int × Rho × Sto):=oo (bindA [] (K.lmap (·.arg) (psOf (stN 144)).args) args) fun ρ=>o3 (exS (runF 150 T) sc144 (b144 0) ρ σ) fun o ρ0 σ0=>nextO o (oo (lk (nm "style") ρ0) fun v=>vInt v fun i=>some (i,ρ0,σ0))
noncomputable def tail935 (T : Tab) (σ : Sto) (b : Nat) (q : Int × Rho × Sto) : An:=o3 (exS (runF 150 T) sc144 (sBr b) q.2.1 q.2.2) fun o ρ1 σ1=>nextO o (o3 (exS (runF 150 T) sc144 (b144 2) ρ1 σ1) fun o _ σ2=>oo (outV o) fun v=>gc (K.len σ) v σ2)
noncomputable def run935 (T : Tab) (b : Nat) (args : List SV) (σ : Sto) : An:=oo (head935 T args σ) (tail935 T σ b)
noncomputable def selB (i : Int) : Nat:=bI (decide (i = 0)) 0 (bI (decide (i = 1)) 1 2)
section
variable {G : Cx} {n a : Nat} {T : Tab} {args : List SV} {σ σ' : Sto} {v : SV}
structure HeadR (G : Cx) (args : List SV) (σ : Sto) (q : Int × Rho × Sto) : Prop where
  run : ∃ ρ,bindA [] (K.lmap (·.arg) (psOf (stN 144)).args) args = some ρ ∧ StT G 150 sc144 (b144 0) ρ σ .next q.2.1 q.2.2
  sty : lk (nm "style") q.2.1 = some (.d (.int q.1))
theorem head_s (ko : KOk3 G) (ht : TabOk G T) : Sat (head935 T args σ) (HeadR G args σ) :=
  .oo fun ρ hb=>.o3 (Q:=fun o ρ0 σ0=>StT G 150 sc144 (b144 0) ρ σ o ρ0 σ0) (fun q e=>StT.run ko ht e) fun o ρ0 σ0 h=>(Sat.nextO (P:=fun o r=>StT G 150 sc144 (b144 0) ρ σ o ρ0 σ0 → HeadR G args σ r) (.oo fun v hv=>(Sat.vInt (P:=fun v r=>lk (nm "style") ρ0 = some v → StT G 150 sc144 (b144 0) ρ σ .next ρ0 σ0 → HeadR G args σ r) fun i=>.yes fun hv h=>⟨⟨ρ,hb,h⟩,hv⟩).mono fun _ k=>k hv)).mono fun _ k=>k h
theorem tail_s (ko : KOk3 G) (ht : TabOk G T) {q : Int × Rho × Sto} (H : HeadR G args σ q) : Sat (tail935 T σ (selB q.1) q) (U2 (FnT G 151 935 args σ)) :=
  .o3 (Q:=fun o ρ1 σ1=>StT G 150 sc144 (sBr (selB q.1)) q.2.1 q.2.2 o ρ1 σ1) (fun q e=>StT.run ko ht e) fun o ρ1 σ1 h=>(Sat.nextO (P:=fun o r=>StT G 150 sc144 (sBr (selB q.1)) q.2.1 q.2.2 o ρ1 σ1 → U2 (FnT G 151 935 args σ) r) (.o3 (Q:=fun o ρ2 σ2=>StT G 150 sc144 (b144 2) ρ1 σ1 o ρ2 σ2) (fun q e=>StT.run ko ht e) fun o2 ρ2 σ2 h2=>.oo fun v hv r e h=>by
    obtain ⟨ρ,hb,h0⟩:=H.run
    refine FnT.def' ko (st:=stN 144) (ds:=[]) rfl (by kernel_rfl) hb (ρ':=ρ2) ?_ hv e
    rw [body144]
    have var : ∀ p,EvT G 150 sc144 (.Name (nm "style") p) q.2.1 q.2.2 (.d (.int q.1)) q.2.2:=fun p=>EvT.var ko.toKOk (by kernel_rfl) H.sty
    have cmpI : ∀ {e : Expr} {y : Int} {p p'},known e = true → (runF 40 T0).ev sc144 e q.2.1 q.2.2 = some (.d (.int y),q.2.2) → TstT G 150 sc144 (.Compare (.Name (nm "style") p) [.Eq] [e] p') q.2.1 q.2.2 (decide (q.1 = y)) q.2.2:=fun hk he=>(EvT.cmp (FactsOk.nil G.V []) hk (var _) (EvT.le (EvT.run ko (tab0 G) he) (by decide)) rfl).2
    refine .next h0 (.next (StT.ite (cmpI (by kernel_rfl) (tAB_2 _ _).1) ?_) (.last h2))
    unfold selB at h
    cases q0 : decide (q.1 = 0) with
    | true=>rw [q0] at h; exact .last h
    | false =>
      rw [q0] at h
      refine .last (StT.ite (cmpI (by kernel_rfl) (tAB_2 _ _).2) ?_)
      cases q1 : decide (q.1 = 1) with
      | true=>rw [q1] at h; exact .last h
      | false=>rw [q1] at h; exact .last h)).mono fun _ k=>k h
theorem selB_lt (i : Int) : selB i < 3:=by
  unfold selB
  cases decide (i = 0) <;> cases decide (i = 1) <;> decide
theorem called_ok (ko : KOk3 G) (ht : TabOk G T) (r : ∀ b,b < 3 → run935 T b args σ = some (v,σ')) : FnT G 151 935 args σ v σ':=by
  obtain ⟨q,hq,_⟩:=oo_i (r 0 (by decide))
  obtain ⟨q',hq',e⟩:=oo_i (r _ (selB_lt q.1))
  cases Option.some.inj (hq.symm.trans hq')
  exact tail_s ko ht (head_s ko ht hq) e
noncomputable def F935 (es : List Memo) : Fn:=fun args σ=>lc args fun a r=>lc r fun b r=>lc r fun c r=>l2 r fun d s=>vInt s fun _=>memo es [a,b,c,d] σ
theorem F935_ok {es : List Memo} (h : ∀ e ∈ es,∀ s : Int,FnT G n 935 (e.args ++ [.d (.int s)]) e.st e.val e.out) : FnOk G n 935 (F935 es):=fun args σ =>
  .lc (P:=fun args=>U2 (FnT G n 935 args σ)) fun a r=>.lc (P:=fun r=>U2 (FnT G n 935 (a :: r) σ)) fun b r=>.lc (P:=fun r=>U2 (FnT G n 935 (a :: b :: r) σ)) fun c r=>.l2 (P:=fun r=>U2 (FnT G n 935 (a :: b :: c :: r) σ)) fun d s=>.vInt (P:=fun s=>U2 (FnT G n 935 [a,b,c,d,s] σ)) fun i=>.om fun e he=>by
    obtain ⟨hm,he⟩:=Sat.findB es he
    have h2:=bA_i (bA_i he).2
    have t:=h e hm i
    rw [allB_eq sameV_eq _ _ (bA_i he).1,sameS_eq h2.1 (Nat.eq_of_beq_eq_true h2.2)] at t
    exact t
noncomputable def isRes (e : Memo) (r : An) : Bool:=optT (fun r=>bA (sameV e.val r.1) (sto2 e.out r.2)) r
theorem isRes_i {e : Memo} {r : An} (h : isRes e r = true) : r = some (e.val,e.out):=by
  obtain ⟨⟨v,s⟩,q,h⟩:=optT_i h
  rw [q,sameV_eq _ _ (bA_i h).1,sto2_i (bA_i h).2]
noncomputable def chk935 (T : Tab) (e : Memo) (s : Int) : Bool:=allN (fun b=>isRes e (run935 T b (e.args ++ [.d (.int s)]) e.st)) 3
noncomputable def chkFn (n a : Nat) (T : Tab) (e : Memo) : Bool:=isRes e (callG n T a e.args e.st)
theorem chkFn_ok (ko : KOk3 G) (ht : TabOk G T) {e : Memo} (h : chkFn n a T e = true) : FnT G n a e.args e.st e.val e.out:=FnT.run ko ht (isRes_i h)
theorem chk935_ok (ko : KOk3 G) (ht : TabOk G T) {e : Memo} {s : Int} (h : chk935 T e s = true) : FnT G 151 935 (e.args ++ [.d (.int s)]) e.st e.val e.out:=called_ok ko ht fun b hb=>isRes_i (allN_i h b hb)
end
noncomputable def tkRows (style : Nat) (head : D) (ot : List (D × D)) : List (D × D):=(K.nth [(.none,head) :: ot.map fun p=>(p.1,p.1),(ot.reverse.map fun p=>(p.1,p.1)) ++ [(head,head)]] style).getD ((ot.map fun p=>(p.2,p.1)) ++ [(.none,head)])
noncomputable def tkAt (f : D) : List (D × D) → Nat → SV:=@List.rec (D × D) (fun _=>Nat → SV) (fun _=>.d .none) fun p _ ih i=>bI (sameD p.2 f) (.ref i) (ih (i + 1))
noncomputable def tkTups : List (D × D) → Nat → List SV:=@List.rec (D × D) (fun _=>Nat → List SV) (fun _=>[]) fun p _ ih i=>.tup [.d p.1,.ref i] :: ih (i + 1)
noncomputable def tkVal (m : Nat) (rows : List (D × D)) (f : D) : SV:=bI (sameD f (sD "...")) (.ref (m + 3)) (tkAt f rows 1)
noncomputable def tkSt (m : Nat) (rows : List (D × D)) (fs : List D) : Sto:=.ls (tkTups rows 1) :: K.app ((List.range m).map fun i=>SO.any (i + 1)) [.dl fs]
noncomputable def tkE (m : Nat) (rows : List (D × D)) (fs : List D) : Memo:=⟨[.ref 0,.ref (m + 1)],tkSt m rows fs,.ref (m + 2),K.app (tkSt m rows fs) (.ls (fs.map (tkVal m rows)) :: bI (hasD (sD "...") fs) [.dl []] [])⟩
noncomputable def takeE (fs : List D) (style : Nat) (head : D) (ot : List (D × D)) : Memo:=tkE (K.len ot + 1) (tkRows style head ot) fs
noncomputable def r3 : List Nat:=[0,1,2]
noncomputable def subs (a b : D × D) : List (List (D × D)):=[[],[a],[b],[a,b]]
noncomputable def fsMatch : List D:=[sD "x",sD "table",sD "nomatch",sD "incomparables"]
noncomputable def fsUniq : List D:=[sD "x",sD "incomparables",sD "fromLast",sD "..."]
noncomputable def tks (fs : List D) (h : D) (os : List (List (D × D))) : List Memo:=r3.flatMap fun s=>os.map fun o=>takeE fs s h o
noncomputable def tkMatch : List Memo:=K.app (tks fsMatch (sD "x") [[(sD "table",sD "tab")],[(sD "table",sD "tab"),(sD "nomatch",sD "no")]]) (tks [sD "el",sD "table"] (sD "el") [[(sD "table",sD "t")]])
noncomputable def tkUniq : List Memo:=tks fsUniq (sD "x") [[],[(sD "fromLast",sD "from")]]
noncomputable def tkUns : List Memo:=tks [sD "x",sD "na.rm",sD "strictly"] (sD "x") (subs (sD "na.rm",sD "na") (sD "strictly",sD "str"))
noncomputable def tkWhich : List Memo:=tks [sD "x",sD "arr.ind",sD "useNames"] (sD "x") (subs (sD "arr.ind",sD "arr") (sD "useNames",sD "use"))
noncomputable def TLt : Tab:=tabOf 0 F0 [] [] []
noncomputable def tkB (es : List Memo) : Bool:=allL (chkFn 60 545 TLt) es
theorem tkMatch_k : tkB tkMatch = true:=by kernel_rfl
theorem tkUniq_k : tkB tkUniq = true:=by kernel_rfl
theorem tkUns_k : tkB tkUns = true:=by kernel_rfl
theorem tkWhich_k : tkB tkWhich = true:=by kernel_rfl
theorem take_ok {G : Cx} (ko : KOk3 G) {n : Nat} (hn : 60 ≤ n) {es : List Memo} (h : tkB es = true) : CallOk G n (545,true,memo es):=.closed fun V _=>FnOk.le (memo_ok fun e he=>chkFn_ok (ko.vx V) (tabOf_ok (FactsOk.nil _ []) zero zero zero) (allL_i h e he)) hn
noncomputable def KAL : List D:=[.none,.int 0,.int 1,.int 2,.int (-1),sD "1",sD "b",sD "0.5",sD "TRUE",sD "0",sD "FALSE",sD "2",sD "-1",sD "NaN",sD "Inf",tD 0 1,tD 1 1,tD 2 1,tD (-1) 1,tD 1 2,tD 0 0,tD 1 0]
noncomputable abbrev Sh:=Bool × Bool × Bool
noncomputable def uvH (h : Sh) : Sto:=uvN h.1 h.2.1 h.2.2
noncomputable def uH (h : Sh) : Nat:=uLen h.1 h.2.1
noncomputable def vL (h : Sh) : Nat:=uH h + 1 + uLen h.2.2 false
noncomputable def uvL (h : Sh) : Nat:=uvN0 h.1 h.2.1 h.2.2
noncomputable def memo815 (h : Sh) : Memo:=⟨[.ref 0,.ref (uH h)],uvH h,.ref (uvL h),K.app (uvH h) [.sy 5 al6 (.var 4)]⟩
noncomputable def T815 (h : Sh) : Tab:=tabOf 120 F0 [(815,false,memo [memo815 h]),(545,true,memo tkMatch)] [] []
noncomputable def othI (o : Nat) : D:=(K.nth [.none,.int 0,tD 9 2,.int (-7)] o).getD .none
noncomputable def othM (o : Nat) : D:=(K.nth [.none,.int 0,.int 4,.int (-7)] o).getD .none
noncomputable def othS (o b : Nat) : Sto:=bI (Nat.beq o 0) [] (vecO b (bI (Nat.beq o 2) (sD "double") (sD "integer")) (.dl [othI o]) (.d .none))
noncomputable def othT (o b : Nat) : SV:=bI (Nat.beq o 0) (.d (.tup [sD "nomatch",sD "no",.none])) (.tup [.d (sD "nomatch"),.d (sD "no"),.ref b])
noncomputable def vH (h : Sh) : Sto:=uN h.2.2 false (uH h + 1) 3
noncomputable def stMa (h : Sh) (o : Nat) : Sto:=K.app (uN h.1 h.2.1 0 0) (.ls [.tup [.d (sD "table"),.d (sD "tab"),.ref (uH h + 1)],othT o (vL h)] :: K.app (vH h) (othS o (vL h)))
noncomputable def stMb (h : Sh) : Sto:=K.app (uN h.1 h.2.1 0 0) (.ls [.tup [.d (sD "table"),.d (sD "t"),.ref (uH h + 1)]] :: vH h)
noncomputable def memoV (args : List SV) (st : Sto) (kind : D) (t : List (D × Option D)) : Memo:=⟨args,st,.ref (K.len st),K.app st (vecO (K.len st) kind (.sy 5 (someOf t) (.map t (.var 4))) (.d .none))⟩
noncomputable def memoMa (h : Sh) (o : Nat) : Memo:=memoV [.top 878,.d (sD "x"),.ref 0,.ref (uH h)] (stMa h o) (sD "integer") (dueT (othM o))
noncomputable def memoMb (h : Sh) : Memo:=memoV [.top 885,.d (sD "el"),.ref 0,.ref (uH h)] (stMb h) (sD "logical") hasT
noncomputable def T961 (h : Sh) (o : Nat) : Tab:=tabOf 151 F0 [(904,false,Fdraw [(42,4,(o : Int),43)]),(935,false,F935 [memoMa h o,memoMb h])] [(sc148,e962,F962),(sc148,e967,F967),(sc148,e970,F970)] []
noncomputable def memo961 (h : Sh) (s : Int) : Memo:=⟨[.ref 0,.ref (uH h),.ref (uvL h),.ref (uvL h + 1),.ref (uvL h + 2),.d (.int s)],K.app (uvH h) [.sy 5 KAL (.var 2),.sy 5 KAL (.var 3),.bd 42],.d (.bool true),K.app (uvH h) [.sy 5 KAL (.var 2),.sy 5 KAL (.var 3),.bd 43]⟩
noncomputable def shs : List Sh:=[(false,false,false),(false,false,true),(false,true,false),(false,true,true),(true,false,false),(true,false,true),(true,true,false),(true,true,true)]
noncomputable def mBa (o : Nat) (s : Int) : Bool:=allL (fun h=>chk935 (T815 h) (memoMa h o) s) shs
noncomputable def mB (o : Nat) (s : Int) : Bool:=allL (fun h=>chkFn 200 961 (T961 h o) (memo961 h s)) shs
section
variable (s : Int)
theorem kMa0 : mBa 0 s = true:=by kernel_rfl
theorem kMa1 : mBa 1 s = true:=by kernel_rfl
theorem kMa2 : mBa 2 s = true:=by kernel_rfl
theorem kMa3 : mBa 3 s = true:=by kernel_rfl
theorem k961_0 : mB 0 s = true:=by kernel_rfl
theorem k961_1 : mB 1 s = true:=by kernel_rfl
theorem k961_2 : mB 2 s = true:=by kernel_rfl
theorem k961_3 : mB 3 s = true:=by kernel_rfl
end
theorem kM_at {o : Nat} (ho : o < 4) (s : Int) : mBa o s = true ∧ mB o s = true:=by
  have h : ∀ o ∈ [0,1,2,3],mBa o s = true ∧ mB o s = true:=two ⟨kMa0 s,k961_0 s⟩ (two ⟨kMa1 s,k961_1 s⟩ (two ⟨kMa2 s,k961_2 s⟩ (two ⟨kMa3 s,k961_3 s⟩ zero)))
  exact h o (List.mem_range.mpr ho)
theorem kMb (s : Int) : allL (fun h=>chk935 (T815 h) (memoMb h) s) shs = true:=by kernel_rfl
theorem mem_shs (a b c : Bool) : (a,b,c) ∈ shs:=by
  cases a <;> cases b <;> cases c
  · exact .head _
  · exact .tail _ (.head _)
  · exact .tail _ (.tail _ (.head _))
  · exact .tail _ (.tail _ (.tail _ (.head _)))
  · exact .tail _ (.tail _ (.tail _ (.tail _ (.head _))))
  · exact .tail _ (.tail _ (.tail _ (.tail _ (.tail _ (.head _)))))
  · exact .tail _ (.tail _ (.tail _ (.tail _ (.tail _ (.tail _ (.head _))))))
  · exact .tail _ (.tail _ (.tail _ (.tail _ (.tail _ (.tail _ (.tail _ (.head _)))))))
theorem matched_ok {G : Cx} (ko : KOk3 G) {w1 w2 : Nat} {nmf : Bool} (h1 : w1 < 5) (h2 : w2 < 5) (lv : LawV G.V w1 w2) (n1 : NamesV G.V w1 nmf 0 0) (n2 : NamesV G.V w2 false 1 3) {o : Nat} (ho : o < 4) (d : DrawOk G.V (42,4,(o : Int),43)) (s : Int) :
    FnT G 200 961 (memo961 (isFac w1,nmf,isFac w2) s).args (memo961 (isFac w1,nmf,isFac w2) s).st (.d (.bool true)) (memo961 (isFac w1,nmf,isFac w2) s).out:=by
  have hm:=mem_shs (isFac w1) nmf (isFac w2)
  have t815 : TabOk G (T815 (isFac w1,nmf,isFac w2)):=tabOf_ok (FactsOk.nil G.V []) (two (.open (memo_ok (two (mpN_ok ko h1 h2 lv n1 n2) zero))) (two (take_ok ko (by decide) tkMatch_k) zero)) zero zero
  have pv : PlV G.V:=⟨lv.p4⟩
  have T : TabOk G (T961 (isFac w1,nmf,isFac w2) o):=tabOf_ok (FactsOk.nil G.V []) (two (.open (FnOk.le (Fdraw_ok ko (two d zero)) (by decide))) (two (.open (F935_ok (two (fun s=>chk935_ok ko t815 (allL_i (kM_at ho s).1 _ hm)) (two (fun s=>chk935_ok ko t815 (allL_i (kMb s) _ hm)) zero)))) zero))
    (two (fun ρ σ=>(F962_s ko pv ρ σ).mono fun _ h=>CoP.le h (by decide)) (two (fun ρ σ=>(F967_s ko pv ρ σ).mono fun _ h=>CoP.le h (by decide)) (two (fun ρ σ=>(F970_s ko pv ρ σ).mono fun _ h=>CoP.le h (by decide)) zero))) zero
  exact chkFn_ok ko T (allL_i (kM_at ho s).2 _ hm)
noncomputable def sc151 : Scope:=scOf (stN 151)
noncomputable def b151 (i : Nat) : Stmt:=stAt (bodyOf (stN 151)) i
noncomputable def ifBd (s : Stmt) (i : Nat) : Stmt:=stAt (sb s 0) i
noncomputable def e1004 : Expr:=sa (b151 3) 0
noncomputable def e1008 : Expr:=sa (ifBd (b151 6) 0) 0
noncomputable def e1017 : Expr:=sa (b151 9) 0
noncomputable def e1026 : Expr:=pa (boE (retE (ifBd (b151 12) 2)) 1) 1
noncomputable def sc97 : Scope:=scOf (stN 97)
noncomputable def e637 : Expr:=pa (sa (ifBd (stAt (bodyOf (stN 97)) 4) 0) 0) 2
noncomputable def sc98 : Scope:=scOf (stN 98)
noncomputable def e650 : Expr:=pa (sa (ifBd (stAt (bodyOf (stN 98)) 7) 0) 0) 1
section
variable {γ : Type} {P : γ → Prop}
noncomputable def obRg (x : Option (Src × Sto)) (f : Nat → Sto → Option γ) : Option γ:=ob x fun r σ=>@Src.casesOn (fun _=>Option γ) r (fun lo n=>gd (decide (lo = 0)) (f n σ)) (fun _ _ _=>none) fun _ _ _ _=>none
theorem Sat.obRg {x : Option (Src × Sto)} {f : Nat → Sto → Option γ} (k : ∀ n σ,x = some (.range 0 n,σ) → Sat (f n σ) P) : Sat (Mine.obRg x f) P:=.ob fun r σ e=>by
  cases r with
  | range lo n=>exact .gd fun h=>k _ _ (of_decide_eq_true h ▸ e)
  | _=>exact .no
noncomputable def aBd (σ : Sto) (j : Nat) (f : Nat → Option γ) : Option γ:=aO σ j fun o=>@SO.casesOn (fun _=>Option γ) o (fun _=>none) (fun _ _ _=>none) (fun _=>none) (fun _=>none) (fun _ _=>none) (fun _=>none) f (fun _=>none) fun _ _=>none
theorem Sat.aBd {σ : Sto} {j : Nat} {f : Nat → Option γ} (k : ∀ q,σ[j]? = some (.bd q) → Sat (f q) P) : Sat (Mine.aBd σ j f) P:=.aO fun o e=>by cases o <;> first | exact .no | exact k _ e
end
noncomputable def isPre (τ : Sto) (y : D) (r : An) : Bool:=optT (fun r=>bA (sameV r.1 (.d y)) (sameS τ r.2)) r
noncomputable def Fdrw (sc : Scope) (e : Expr) (al : List D) (iv q0 n0 : Nat) : FC:=fun ρ σ=>gd (compSc sc (lcSc e) (nm "lap") ρ) (obRg (iterOf (runF 40 T0) sc ρ (pa e 2) σ) fun n σ₁=>refAt "beads" ρ fun j=>aBd σ₁ j fun q=>gd (bA (Nat.beq n n0) (bA (Nat.beq q q0)
  (allN (fun k=>allN (fun v=>isPre (K.lset σ₁ j (.bd (q + k + 1))) (itAt al v) ((runF 40 (Td [(q + k,(al.length : Int),(v : Int),q + k + 1)])).ev (lcSc e) (pa e 0) ((nm "lap",.d (.int (k : Int))) :: ρ) (K.lset σ₁ j (.bd (q + k))))) al.length) n))) (nw (K.lset σ₁ j (.bd (q + n))) (.sy n al (.var iv))))
noncomputable def alT : List D:=[.int 1,.int 0,.none]
noncomputable def alH : List D:=[sD "p",sD "q",.none,sD "p"]
noncomputable def TSw (n : Nat) : List (List (D × Option D)):=(List.range' 0 n).map fun (k : Nat)=>[(.int 1,some (.int (k : Int))),(.int 0,none),(.none,none)]
noncomputable def pW (n : Nat) : LX:=.itab (TSw n) (.var 1100)
noncomputable def F1017 (n : Nat) : FC:=fun ρ σ=>gd (compSc sc151 (lcSc e1017) (nm "at") ρ) (obRg (iterOf (runF 40 T0) sc151 ρ (pa e1017 2) σ) fun m σ₁=>refAt "truths" ρ fun i=>aSy σ₁ i fun nn al l=>gd (bA (Nat.beq m n) (bA (Nat.beq nn n) (bA (sameX (.var 1100) l) (sameDs al alT)))) (nw σ₁ (.sy n (someOfs (TSw n)) (pW n))))
noncomputable def Fidx (n : Nat) (sc : Scope) (e : Expr) (x ln : String) : FC:=fun ρ σ=>gd (compSc sc (lcSc e) (nm x) ρ) (obSy (iterOf (runF 40 T0) sc ρ (pa e 2) σ) fun _ _ l σ₁=>refAt ln ρ fun i=>aSy σ₁ i fun nn al l'=>gd (bA (Nat.beq nn n) (bA (sameX (pW n) l) (bA (sameX (.var 1101) l') (sameDs al alH)))) (nw σ₁ (.sy n alH (.fn 0 (pW n) (.var 1101)))))
theorem Tu.set {σ : Sto} {j q q' : Nat} : Tu (K.lset σ j (.bd q)) (K.lset σ j (.bd q')):=by
  rw [K.lset_eq,K.lset_eq]
  exact All2.set (.inr rfl) Tu.refl
section
variable {G : Cx} {n : Nat} {sc sc' : Scope} {x : Str} {elt it : Expr} {ifs : List Expr} {px pos : Pos} {ρ : Rho} {σ σ₁ : Sto}
theorem Fdrw_s (ko : KOk3 G) {e : Expr} {al : List D} {iv q0 n0 : Nat} (he : e = lcOf (nm "lap") e) (h0 : 0 < al.length) (hb : ∀ k,k < n0 → G.V.bv (q0 + k + 1) = (G.V.bv (q0 + k)).dropLast) (hv : G.V.val iv = drawn G.V.bv al n0 q0) : CompOk G 45 (sc,e,Fdrw sc e al iv q0 n0):=fun ρ σ =>
  .gd fun hcs=>.obRg fun n σ₁ hi=>.refAt fun j hj=>.aBd fun q ho=>.gd fun h=>.nw (by
    have h2:=bA_i (bA_i h).2
    have hn:=Nat.eq_of_beq_eq_true (bA_i h).1
    have hq:=Nat.eq_of_beq_eq_true h2.1
    subst hn hq
    show CoP G 45 sc e ρ σ _ _
    have hl : (K.lset σ₁ j (.bd (q + n))).length = σ₁.length:=by rw [K.lset_eq,List.length_set]
    have s : SrcT G 45 sc ρ (pa e 2) σ (.range 0 n) σ₁:=iterOf_s ko.toKOk (EvOk.le (rec0 ko 40).ev (by decide)) _ hi
    have hst : σ₁ = K.lset σ₁ j (.bd q):=by rw [K.lset_eq,set_self ho]
    have s' : SrcT G 45 sc ρ (pa e 2) σ (.range 0 n) (K.lset σ₁ j (.bd q)):=hst ▸ s
    rw [he]
    exact (draw_comp (st:=fun q=>K.lset σ₁ j (.bd q)) ko s' (Nat.le_refl _) (Nat.le_refl _) (he ▸ hcs) h0 hb (fun k hk v hv d=>by
      obtain ⟨⟨y,σ₂⟩,e1,e2⟩:=optT_i (allN_i (allN_i h2.2 k hk) v hv)
      have ey : y = .d (itAt al v):=sameV_eq _ _ (bA_i e2).1
      rw [ey] at e1
      exact StepT.first (r:=some (itAt al v)) (StepT.ev (EvT.le (EvT.run ko (tabDw ko d) e1) (by decide))) Tu.set (bA_i e2).2) hv).co)
theorem comp_range (ko : KOk3 G) {N n' : Nat} {al' : List D} {r : LX} (s : SrcT G n sc ρ it σ (.range 0 N) σ₁) (hcs : compSc sc sc' x ρ = true) {y : Nat → Option D}
    (el : ∀ j,j < N → StepT G n sc' ifs elt ((x,.d (.int (j : Int))) :: ρ) σ₁ ((y j).map .d) σ₁) (hr : GivesX G.V r n' al' ((List.range' 0 N).filterMap y)) : CompB G n sc elt [⟨.Name x px,it,ifs,0⟩] sc' pos ρ σ (.ref σ₁.length) (σ₁ ++ [.sy n' al' r]) :=
  comp_both ko.cls (compSc_i hcs) s.kn s.go (fun _=>by rw [show (Src.range 0 N).itemsD G.V = ints' 0 N from range_ints N]; exact elems_range trivial fun j hj=>el j (by rw [Nat.zero_add] at hj; exact hj)) fun _=>.sy hr.den hr.mem hr.len
end
structure WhV (V : Vx) (n : Nat) : Prop where
  l0 : (V.val 1100).length = n
  t : ∀ a ∈ V.val 1100,a ∈ alT
  l1 : (V.val 1101).length = n
  h : ∀ a ∈ V.val 1101,a ∈ alH
noncomputable def one (a : D) : Bool:=sameD a (.int 1)
noncomputable def selN (V : Vx) (n : Nat) : List Nat:=(List.range' 0 n).filter fun k=>optT one (V.val 1100)[k]?
theorem fm_filter {p : Nat → Bool} {f : Nat → D} {y : Nat → Option D} {l : List Nat} (h : ∀ k ∈ l,y k = bI (p k) (some (f k)) none) : l.filterMap y = (l.filter p).map f:=by
  induction l with
  | nil=>rfl
  | cons a l ih =>
    rw [List.filterMap_cons,List.filter_cons,h a (.head _)]
    have ih:=ih fun k hk=>h k (.tail _ hk)
    cases p a with
    | true=>exact congrArg (f a :: ·) ih
    | false=>exact ih
theorem sel_lt {V : Vx} {n k : Nat} (h : k ∈ selN V n) : k < n:=Nat.zero_add n ▸ (List.mem_range'_1.mp (List.mem_filter.mp h).1).2
theorem sel_y {V : Vx} {n : Nat} : (List.range' 0 n).filterMap (selY one (fun (k : Nat)=>D.int (k : Int)) (V.val 1100)) = (selN V n).map fun (k : Nat)=>D.int (k : Int):=fm_filter fun k _=>by
  unfold selY
  cases (V.val 1100)[k]? <;> rfl
theorem sel_len {V : Vx} {n : Nat} : (selN V n).length ≤ n:=Nat.le_trans (List.length_filter_le ..) (Nat.le_of_eq (List.length_range' ..))
theorem denW {V : Vx} {n : Nat} (wv : WhV V n) : den V.val (pW n) = (selN V n).map fun (k : Nat)=>D.int (k : Int):=by
  have t : ∀ a ∈ alT,∀ k : Nat,tabD [(.int 1,some (.int (k : Int))),(.int 0,none),(.none,none)] a = bI (one a) (some (.int (k : Int))) none:=two (fun _=>rfl) (two (fun _=>rfl) (two (fun _=>rfl) zero))
  have h:=idxMap_sel (TT:=fun (k : Nat)=>[(.int 1,some (.int (k : Int))),(.int 0,none),(.none,none)]) (g:=fun a=>a) (y:=selY one (fun (k : Nat)=>D.int (k : Int)) (V.val 1100)) (V.val 1100) (k:=0) (N:=n) (Nat.le_of_eq wv.l0) fun i a ha=>by
    rw [Nat.zero_add]
    unfold selY
    rw [ha]
    exact t a (wv.t a (List.mem_of_getElem? ha)) i
  rw [wv.l0,List.map_id',sel_y] at h
  exact h
theorem someOfs_mem {y : D} {t : List (D × Option D)} {ts : List (List (D × Option D))} (h : t ∈ ts) (k : y ∈ someOf t) : y ∈ someOfs ts:=by
  induction h with
  | head r =>
    show y ∈ K.app _ _
    rw [K.app_eq]
    exact List.mem_append_left _ k
  | tail b _ ih =>
    show y ∈ K.app _ _
    rw [K.app_eq]
    exact List.mem_append_right _ ih
theorem TSw_mem {n k : Nat} (h : k < n) : D.int (k : Int) ∈ someOfs (TSw n):=someOfs_mem (List.mem_map.mpr ⟨k,List.mem_range'_1.mpr ⟨Nat.zero_le _,(Nat.zero_add n).symm ▸ h⟩,rfl⟩) (.head _)
noncomputable def t1017 : Expr:=pa e1017 3
theorem e1017_shape : e1017 = .ListComp (.Name (nm "at") (pa e1017 0).pos) [⟨.Name (nm "at") (pa e1017 1).pos,pa e1017 2,[.Compare (.Subscript (.Name (nm "truths") (pa (pa t1017 0) 0).pos) (.Name (nm "at") (pa (pa t1017 0) 1).pos) (pa t1017 0).pos) [.Eq] [pa t1017 1] t1017.pos],0⟩] (lcSc e1017) e1017.pos:=by kernel_rfl
theorem one1017 (ρ : Rho) (σ : Sto) : (runF 40 T0).ev (lcSc e1017) (pa t1017 1) ρ σ = some (.d (.int 1),σ):=by kernel_rfl
theorem atO_self {V : Vx} {iv k n : Nat} {al : List D} {a : D} : atO { F0 with ats:=[(.var iv,k,a)] } (.sy n al (.var iv)) k = some (.d a):=by
  show om (atX (.var iv) k [(.var iv,k,a)]) SV.d = _
  rw [atX_self (l:=.var iv) (Nat.beq_refl iv)]
  rfl
theorem F1017_s {G : Cx} (ko : KOk3 G) {n : Nat} (hn : n ≤ 6) (wv : WhV G.V n) : CompOk G 45 (sc151,e1017,F1017 n):=fun ρ σ=>.gd fun hcs=>.obRg fun m σ₁ hi=>.refAt fun i hi'=>.aSy fun nn al l ho=>.gd fun h=>.nw (by
  have h2:=bA_i (bA_i h).2
  have h3:=bA_i h2.2
  rw [← sameX_eq _ _ h3.1] at ho
  rw [Nat.eq_of_beq_eq_true (bA_i h).1] at hi
  have s : SrcT G 45 sc151 ρ (pa e1017 2) σ (.range 0 n) σ₁:=iterOf_s ko.toKOk (EvOk.le (rec0 ko 40).ev (by decide)) _ hi
  have c1 : ∀ a ∈ alT,cmp F0 .Eq (.d a) (.d (.int 1)) σ₁ = some (one a):=two rfl (two rfl (two rfl zero))
  show CoP G 45 sc151 e1017 ρ σ _ _
  rw [e1017_shape]
  refine (comp_range ko s hcs (y:=selY one (fun (k : Nat)=>D.int (k : Int)) (G.V.val 1100)) (fun k hk=>?_) ⟨(denW wv).trans sel_y.symm,fun x hx=>?_,Nat.le_trans (List.length_filterMap_le ..) (Nat.le_of_eq (List.length_range' ..))⟩).co
  · have hk2 : k < (G.V.val 1100).length:=wv.l0.symm ▸ hk
    have ha : (G.V.val 1100)[k]? = some ((G.V.val 1100)[k]):=List.getElem?_eq_getElem hk2
    have v1 : ∀ p,EvT G 45 (lcSc e1017) (.Name (nm "at") p) ((nm "at",.d (.int (k : Int))) :: ρ) σ₁ (.d (.int (k : Int))) σ₁:=fun p=>EvT.var ko.toKOk (by kernel_rfl) rfl
    have tst:=(EvT.cmp (FactsOk.nil G.V []) (op:=.Eq) (pos:=t1017.pos) (z:=one (G.V.val 1100)[k]) (by kernel_rfl) (EvT.sub (p:=(pa t1017 0).pos) (factAt (V:=G.V) (l:=.var 1100) ha) (EvT.var ko.toKOk (ρ:=(nm "at",.d (.int (k : Int))) :: ρ) (x:=nm "truths") (p:=(pa (pa t1017 0) 0).pos) (by kernel_rfl) hi') (v1 (pa (pa t1017 0) 1).pos) ((sub_at ho (Nat.lt_of_lt_of_le hk (Nat.le_trans hn (by decide)))).trans (atO_self (V:=G.V)))) (EvT.le (EvT.run ko (tab0 G) (one1017 _ _)) (by decide)) (c1 _ (wv.t _ (List.getElem_mem hk2)))).2
    unfold selY
    rw [ha]
    show StepT G 45 _ _ _ _ _ ((bI (one _) _ none).map .d) _
    cases q : one (G.V.val 1100)[k] with
    | false=>rw [q] at tst; exact .skip (.one tst)
    | true=>rw [q] at tst; exact .take (.one tst) (v1 _)
  · rw [sel_y] at hx
    obtain ⟨k,hk,rfl⟩:=List.mem_map.mp hx
    exact TSw_mem (sel_lt hk))
theorem Fidx_s {G : Cx} (ko : KOk3 G) {n : Nat} (hn : n ≤ 6) (wv : WhV G.V n) {sc : Scope} {e : Expr} {x ln : String} (he : e = lcOf (nm x) e) (e0 : pa e 0 = .Subscript (.Name (nm ln) (pa (pa e 0) 0).pos) (.Name (nm x) (pa (pa e 0) 1).pos) (pa e 0).pos) (k1 : varB (lcSc e) (nm x) = true) (k2 : varB (lcSc e) (nm ln) = true) (d3 : seq (nm x) (nm ln) = false) : CompOk G 45 (sc,e,Fidx n sc e x ln):=fun ρ σ =>
  .gd fun hcs=>.obSy fun _ _ _ l σ₁ hi=>.refAt fun i hi'=>.aSy fun nn al l' ho=>.gd fun h=>.nw (by
  have h2:=bA_i (bA_i h).2
  have h3:=bA_i h2.2
  rw [← sameX_eq _ _ h3.1] at ho
  rw [← sameX_eq _ _ h2.1] at hi
  have hd:=denW wv
  show CoP G 45 sc e ρ σ _ _
  rw [he]
  refine (comp_list ko (tab0 G) (by decide) (he ▸ hcs) hi (y:=fun a=>some (atD (G.V.val 1101) a)) (fun re a ha hal=>StepT.ev ?_) fun re M=>⟨show den G.V.val (.fn 0 (pW n) (.var 1101)) = _ from (congrFun (List.filterMap_eq_map' (f:=atD (G.V.val 1101))) (den G.V.val (pW n))).symm,fun a ha=>?_,?_⟩).co
  · rw [hd] at ha
    obtain ⟨k,hk,rfl⟩:=List.mem_map.mp ha
    have hk2 : k < (G.V.val 1101).length:=wv.l1.symm ▸ sel_lt hk
    have hb : (G.V.val 1101)[k]? = some ((G.V.val 1101)[k]):=List.getElem?_eq_getElem hk2
    rw [show atD (G.V.val 1101) (.int (k : Int)) = (G.V.val 1101)[k] from (congrArg (Option.getD · D.none) hb),e0]
    exact EvT.sub (factAt (V:=G.V) (l:=.var 1101) hb) (EvT.var ko.toKOk k2 ((lk_cons ..).trans ((if_neg (ne_of_seq d3)).trans hi'))) (EvT.var ko.toKOk k1 ((lk_cons ..).trans (if_pos rfl))) ((sub_at ho (Nat.lt_of_lt_of_le (sel_lt hk) (Nat.le_trans hn (by decide)))).trans (atO_self (V:=G.V)))
  · obtain ⟨b,hb,e⟩:=List.mem_filterMap.mp ha
    rw [hd] at hb
    obtain ⟨k,hk,rfl⟩:=List.mem_map.mp hb
    have hk2 : k < (G.V.val 1101).length:=wv.l1.symm ▸ sel_lt hk
    have e : atD (G.V.val 1101) (.int (k : Int)) = a:=Option.some.inj e
    rw [show atD (G.V.val 1101) (.int (k : Int)) = (G.V.val 1101)[k] from (congrArg (Option.getD · D.none) (List.getElem?_eq_getElem hk2))] at e
    exact e ▸ wv.h _ (List.getElem_mem hk2)
  · rw [hd]
    exact Nat.le_trans (List.length_filterMap_le ..) (Nat.le_trans (Nat.le_of_eq (List.length_map ..)) sel_len))
noncomputable def ntD (al : List Nat) : List D:=K.lmap (fun (k : Nat)=>.int (k : Int)) al
noncomputable def tabI (al : List Nat) (f : Nat → Nat) : List (D × Option D):=tabG (onI .none fun i=>.int ((f i.toNat : Nat) : Int)) (ntD al)
theorem ntD_mem {al : List Nat} {k : Nat} (h : k ∈ al) : D.int (k : Int) ∈ ntD al:=mem_lmap (f:=fun (k : Nat)=>D.int (k : Int)) h
noncomputable def al0 (n : Nat) : List Nat:=List.range n
noncomputable def al1 (n : Nat) : List Nat:=(List.range n).map (· + 1)
noncomputable def qW (n : Nat) : LX:=.map (tabI (al1 n) (· - 1)) (.map (tabI (al0 n) (· + 1)) (pW n))
noncomputable def toldX (h c n : Nat) : LX:=.cat (.map (tabI (al0 n) fun a=>a % h + 1) (qW n)) (.map (tabI ((al0 n).map (· / h)) fun a=>a % c + 1) (.map (tabI (al0 n) (· / h)) (qW n)))
noncomputable def dueX (h n : Nat) : LX:=.cat (.map (tabI (al0 n) fun a=>a % h + 1) (pW n)) (.map (tabI (al0 n) fun a=>a / h + 1) (pW n))
noncomputable def rS (k : Nat) : D:=.str (Str.ofString "r" ++ strI k)
noncomputable def rowT (h n : Nat) : List (D × Option D):=tabG (onI .none fun i=>rS (i.toNat % h)) (ntD (al0 n))
noncomputable def isOne (r : Option (Option D)) (y : D) : Bool:=optT (fun z=>optT (fun z=>sameD z y) z) r
noncomputable def F650 (h c n p : Nat) : FC:=fun ρ σ=>gd (compSc sc98 (lcSc e650) (nm "number") ρ) (obSy (iterOf (runF 40 T0) sc98 ρ (pa e650 2) σ) fun _ _ l σ₁=>gd (bA (sameX (.take p (toldX h c n)) l) (allN (fun k=>isOne (elem (runF 40 T0) (lcSc e650) (nm "number") (.d (.int ((k + 1 : Nat) : Int))) [] (pa e650 0) ρ σ₁) (rS k)) h)) (nw σ₁ (.sy n (someOf (rowT h n)) (.map (rowT h n) (pW n)))))
section
variable {V : Vx} {h c n p : Nat}
theorem map_tab {al S : List Nat} {f g : Nat → Nat} {L : LX} (hL : den V.val L = S.map fun (k : Nat)=>D.int ((g k : Nat) : Int)) (hm : ∀ k ∈ S,g k ∈ al) : den V.val (.map (tabI al f) L) = S.map fun (k : Nat)=>D.int ((f (g k) : Nat) : Int):=by
  show (den V.val L).map _ = _
  rw [hL,List.map_map]
  exact List.map_congr_left fun k hk=>tabG_at (ntD_mem (hm k hk))
variable (wv : WhV V n)
include wv
theorem in0 : ∀ k ∈ selN V n,k ∈ al0 n:=fun _ hk=>List.mem_range.mpr (sel_lt hk)
theorem den_q : den V.val (qW n) = (selN V n).map fun (k : Nat)=>D.int (k : Int):=map_tab (g:=(· + 1)) (map_tab (g:=fun k=>k) (denW wv) (in0 wv)) fun k hk=>List.mem_map.mpr ⟨k,in0 wv k hk,rfl⟩
theorem den_both (hh : 0 < h) (hn : n = h * c) : den V.val (toldX h c n) = (selN V n).map (fun (k : Nat)=>D.int ((k % h + 1 : Nat) : Int)) ++ (selN V n).map (fun (k : Nat)=>D.int ((k / h + 1 : Nat) : Int)) ∧ den V.val (dueX h n) = (selN V n).map (fun (k : Nat)=>D.int ((k % h + 1 : Nat) : Int)) ++ (selN V n).map (fun (k : Nat)=>D.int ((k / h + 1 : Nat) : Int)):=by
  have b:=map_tab (V:=V) (al:=al0 n) (f:=(· / h)) (g:=fun k=>k) (den_q wv) (in0 wv)
  refine ⟨?_,congr (congrArg _ (map_tab (g:=fun k=>k) (denW wv) (in0 wv))) (map_tab (g:=fun k=>k) (denW wv) (in0 wv))⟩
  refine congr (congrArg _ (map_tab (g:=fun k=>k) (den_q wv) (in0 wv))) ((map_tab (f:=fun a=>a % c + 1) b fun k hk=>List.mem_map.mpr ⟨k,in0 wv k hk,rfl⟩).trans (List.map_congr_left fun k hk=>?_))
  rw [Nat.mod_eq_of_lt ((Nat.div_lt_iff_lt_mul hh).mpr (Nat.mul_comm h c ▸ hn ▸ sel_lt hk))]
end
theorem e_shapes : e1004 = lcOf (nm "lap") e1004 ∧ e1008 = lcOf (nm "lap") e1008 ∧ e637 = lcOf (nm "place") e637 ∧ e1026 = lcOf (nm "at") e1026 ∧ e650 = lcOf (nm "number") e650:=⟨by kernel_rfl,by kernel_rfl,by kernel_rfl,by kernel_rfl,by kernel_rfl⟩
theorem x_shapes : pa e637 0 = .Subscript (.Name (nm "names") (pa (pa e637 0) 0).pos) (.Name (nm "place") (pa (pa e637 0) 1).pos) (pa e637 0).pos ∧ pa e1026 0 = .Subscript (.Name (nm "heads") (pa (pa e1026 0) 0).pos) (.Name (nm "at") (pa (pa e1026 0) 1).pos) (pa e1026 0).pos:=⟨by kernel_rfl,by kernel_rfl⟩
structure Wh where
  sh : Nat
  hi : Nat
  mv : Nat
  dn : Nat
  p : Nat
  x : Bool
noncomputable def Wh.two (w : Wh) : Bool:=Nat.beq w.sh 2
noncomputable def Wh.h (w : Wh) : Nat:=1 + w.hi
noncomputable def Wh.c (w : Wh) : Nat:=1 + w.mv
noncomputable def Wh.many (w : Wh) : Nat:=bI w.two (w.h * w.c) w.mv
noncomputable def Wh.mid (w : Wh) : Nat:=bI (Nat.beq w.sh 1) w.many (bI w.two 1 0)
noncomputable def Wh.ends (w : Wh) : Nat:=2000 + (3 + w.many + w.mid)
noncomputable def Wh.ax (w : Wh) : Bool:=bA w.two w.x
noncomputable def Wh.dr1 (w : Wh) : List Dw:=(2000,3,(w.sh : Int),2001) :: (2001,3,(w.hi : Int),2002) :: (2002,(bI w.two 2 6 : Nat),(w.mv : Int),2003) :: bI w.two [(2000 + (3 + w.many),2,(w.dn : Int),w.ends)] []
noncomputable def Wh.dr2 (w : Wh) (a u : Nat) : List Dw:=[(w.ends,3,(a : Int),w.ends + 1),(w.ends + 1,3,(u : Int),w.ends + 2)]
noncomputable def runSs (R : Rec) (sc : Scope) : List Stmt → Rho → Sto → Option (Rho × Sto):=@List.rec Stmt (fun _=>Rho → Sto → Option (Rho × Sto)) (fun ρ σ=>some (ρ,σ)) fun s _ ih ρ σ=>o3 (exS R sc s ρ σ) fun o ρ σ=>nextO o (ih ρ σ)
noncomputable def RunS (G : Cx) (n : Nat) (sc : Scope) (l : List Stmt) (ρ : Rho) (σ : Sto) (ρ' : Rho) (σ' : Sto) : Prop:=∀ ⦃r : List Stmt⦄ ⦃out : Out⦄ ⦃ρ2 : Rho⦄ ⦃σ2 : Sto⦄,ExT G n sc r ρ' σ' out ρ2 σ2 → ExT G n sc (l ++ r) ρ σ out ρ2 σ2
theorem runSs_s {G : Cx} (ko : KOk3 G) {n : Nat} {T : Tab} (ht : TabOk G T) {sc : Scope} (l : List Stmt) : ∀ ρ σ,Sat (runSs (runF n T) sc l ρ σ) (U2 (RunS G n sc l ρ σ)):=by
  induction l with
  | nil=>exact fun ρ σ=>.yes fun _ _ _ _ h=>h
  | cons s l ih=>exact fun ρ σ=>.o3 (Q:=fun o ρ1 σ1=>StT G n sc s ρ σ o ρ1 σ1) (fun q e=>StT.run ko ht e) fun o ρ1 σ1 h=>(Sat.nextO (P:=fun o q=>StT G n sc s ρ σ o ρ1 σ1 → U2 (RunS G n sc (s :: l) ρ σ) q) ((ih ρ1 σ1).mono fun q t h _ _ _ _ x=>ExT.next h (t x))).mono fun _ k=>k h
noncomputable def F935c (T : Tab) : Fn:=fun args σ=>oo (run935 T 0 args σ) fun r=>gd (allN (fun b=>isRes ⟨[],[],r.1,r.2⟩ (run935 T (b + 1) args σ)) 2) (some r)
noncomputable def flagE (x : Int) (d b : Bool) : Memo:=⟨[.ref 0,.d (.bool d)],vecO 0 (sD "logical") (.dl [.int x]) (.d .none),.d (.bool b),vecO 0 (sD "logical") (.dl [.int x]) (.d .none)⟩
noncomputable def flags : List Memo:=[⟨[.d .none,.d (.bool true)],[],.d (.bool true),[]⟩,⟨[.d .none,.d (.bool false)],[],.d (.bool false),[]⟩,flagE 1 true true,flagE 1 false true,flagE 0 true false,flagE 0 false false]
noncomputable def factsI (w : Wh) : Facts:=bI w.ax { F0 with lens:=[(pW w.many,w.p)] } F0
noncomputable def factsW (w : Wh) : Facts:=bI w.ax { F0 with lens:=[(pW w.many,w.p)],eqs:=[(toldX w.h w.c w.many,dueX w.h w.many,true),(pW w.many,.lit [],Nat.beq w.p 0)] } F0
noncomputable def c637 (w : Wh) : Scope × Expr × FC:=(sc97,e637,Fidx w.many sc97 e637 "place" "names")
noncomputable def lz (n : Nat) (T : Tab) (a : Nat) (as : List SV) (st : Sto) : Fn:=fun args σ=>gd (bA (sameVs as args) (bA (sameS st σ) (Nat.beq (K.len st) (K.len σ)))) (callG n T a as st)
theorem lz_ok {G : Cx} (ko : KOk3 G) {n a : Nat} {T : Tab} (ht : TabOk G T) {as : List SV} {st : Sto} : FnOk G n a (lz n T a as st):=fun args σ=>.gd fun h r e=>by
  have h2:=bA_i (bA_i h).2
  have t:=FnT.run ko ht e
  rw [allB_eq sameV_eq _ _ (bA_i h).1,sameS_eq h2.1 (Nat.eq_of_beq_eq_true h2.2)] at t
  exact t
noncomputable def dimO (w : Wh) : SO:=.dl [.int w.h,.int w.c]
noncomputable def stV (w : Wh) : Sto:=K.app (vecO 0 (sD "logical") (.sy w.many alT (.var 1100)) (bI (Nat.beq w.sh 0) (.d .none) (.ref 3)))
  (bI (Nat.beq w.sh 1) (.di [(nm "names",.ref 4)] :: chrO 4 (.sy w.many alH (.var 1101))) (bI w.two (.di ((nm "dim",.ref 4) :: bI (Nat.beq w.dn 1) [(nm "dimnames",.ref 7)] []) :: K.app (vecO 4 (sD "integer") (dimO w) (.d .none))
  (bI (Nat.beq w.dn 1) (K.app (vecO 7 (sD "list") (.ls [.ref 10,.ref 13]) (.d .none)) (K.app (chrO 10 (.dl (K.lmap rS (List.range w.h)))) [.inst 275 14,.di [(nm "kind",.d (sD "NULL")),(nm "attrs",.d .none)]])) [])) []))
noncomputable def TQ (w : Wh) : Tab:=tabOf 60 (factsI w) [] (c637 w :: bI w.ax [(sc98,e650,F650 w.h w.c w.many w.p)] []) []
noncomputable def TWi (w : Wh) : Tab:=tabOf 100 F0 [(545,true,memo tkWhich),(858,false,memo flags),(677,false,lz 99 (TQ w) 677 [.ref 0] (stV w)),
  (682,false,lz 99 (TQ w) 682 [.ref 0,.ref (K.len (stV w)),.ref (K.len (stV w) + 1)] (K.app (stV w) [.sy w.many (ntD (al0 w.many)) (qW w.many),dimO w]))] [] []
noncomputable def TP (w : Wh) : Tab:=tabOf 151 F0 [(904,false,Fdraw w.dr1)] [(sc151,e1004,Fdrw sc151 e1004 alT 1100 2003 w.many),(sc151,e1008,Fdrw sc151 e1008 alH 1101 (2000 + (3 + w.many)) w.many)] []
noncomputable def TW (w : Wh) (a u : Nat) : Tab:=tabOf 151 (factsW w) [(904,false,Fdraw (w.dr2 a u)),(935,false,F935c (TWi w))] [(sc151,e1017,F1017 w.many),(sc151,e1026,Fidx w.many sc151 e1026 "at" "heads")] []
noncomputable def bodyW : List Stmt:=bodyOf (stN 151)
noncomputable def bindW (s : Int) : Option Rho:=bindA [] (K.lmap (·.arg) (psOf (stN 151)).args) [.ref 0,.d (.int s)]
noncomputable def runW (w : Wh) (a u : Nat) (ρ0 : Rho) : An:=ob (runSs (runF 199 (TP w)) sc151 (bodyW.take 7) ρ0 [.bd 2000]) fun ρ σ=>o3 ((runF 199 (TW w a u)).ex sc151 (bodyW.drop 7) ρ σ) fun o _ σ2=>oo (outV o) fun v=>gc 1 v σ2
noncomputable def chkW (s : Int) (w : Wh) (a u : Nat) : Bool:=optT (fun ρ0=>isRes ⟨[],[],.d (.bool true),[.bd (w.ends + 2)]⟩ (runW w a u ρ0)) (bindW s)
theorem chkW_ok {G : Cx} (ko : KOk3 G) {s : Int} {w : Wh} {a u : Nat} (t1 : TabOk G (TP w)) (t2 : TabOk G (TW w a u)) (h : chkW s w a u = true) : FnT G 200 976 [.ref 0,.d (.int s)] [.bd 2000] (.d (.bool true)) [.bd (w.ends + 2)]:=by
  obtain ⟨ρ0,hb,h⟩:=optT_i h
  exact (Sat.bS (P:=U2 (FnT G 200 976 [.ref 0,.d (.int s)] [.bd 2000])) (runSs_s ko t1 (bodyW.take 7) ρ0 [.bd 2000]) fun ρ σ hr=>.o3 (Q:=fun o ρ' σ'=>ExT G 199 sc151 (bodyW.drop 7) ρ σ o ρ' σ') ((run_ok ko 199 _ t2).ex sc151 _ ρ σ) fun o ρ' σ2 hx=>.oo fun v hv q g =>
    FnT.def' ko (st:=stN 151) (ds:=[]) rfl (by kernel_rfl) hb (List.take_append_drop 7 bodyW ▸ hr hx) hv g) (isRes_i h)
noncomputable def r2 : List Nat:=[0,1]
noncomputable def wB0 (sh m : Nat) (s : Int) (x : Nat) : Bool:=allL (fun a=>allL (fun u=>chkW s ⟨sh,x,m,0,0,false⟩ a u) r3) r3
noncomputable def wB2 (h c dn : Nat) (s : Int) : Bool:=allL (fun a=>allL (fun u=>chkW s ⟨2,h,c,dn,0,false⟩ a u) r3) [0,2]
noncomputable def wB3p (h c dn p : Nat) (s : Int) : Bool:=allL (fun u=>chkW s ⟨2,h,c,dn,p,true⟩ 1 u) r3
theorem flags_k : allL (chkFn 60 858 T0) flags = true:=by kernel_rfl
theorem StepT.le {G : Cx} {n k : Nat} {sc : Scope} {ifs : List Expr} {elt : Expr} {ρ : Rho} {σ σ' : Sto} {r : Option SV} (h : StepT G n sc ifs elt ρ σ r σ') (hk : n ≤ k) : StepT G k sc ifs elt ρ σ r σ':=fun c env cm W E QT QN s hA X kn kt=>h (hA.le hk) X kn kt
section
variable {G : Cx} (ko : KOk3 G) {h c n p : Nat}
include ko
theorem F650_s (hh : 0 < h) (hn : n = h * c) (wv : WhV G.V n) (hp : (selN G.V n).length = p) : CompOk G 45 (sc98,e650,F650 h c n p):=fun ρ σ=>.gd fun hcs=>.obSy fun _ _ _ l σ₁ hi=>.gd fun hq=>.nw (by
  rw [← sameX_eq _ _ (bA_i hq).1] at hi
  have hd : den G.V.val (.take p (toldX h c n)) = (selN G.V n).map fun (k : Nat)=>D.int ((k % h + 1 : Nat) : Int):=by
    show (den G.V.val (toldX h c n)).take p = _
    rw [(den_both wv hh hn).1,List.take_left' ((List.length_map ..).trans hp)]
  have hr : den G.V.val (.map (rowT h n) (pW n)) = (selN G.V n).map fun (k : Nat)=>rS (k % h):=by
    show (den G.V.val (pW n)).map _ = _
    rw [denW wv,List.map_map]
    exact List.map_congr_left fun k hk=>tabG_at (ntD_mem (in0 wv k hk))
  show CoP G 45 sc98 e650 ρ σ _ _
  rw [e_shapes.2.2.2.2]
  refine (comp_list ko (tab0 G) (by decide) hcs hi (y:=fun a=>some (onI .none (fun m=>rS (m.toNat - 1)) a)) (fun re a ha hal=>?_) fun re M=>⟨?_,fun a ha=>?_,?_⟩).co
  · rw [hd] at ha
    obtain ⟨k,hk,rfl⟩:=List.mem_map.mp ha
    obtain ⟨z,e1,e2⟩:=optT_i (allN_i (bA_i hq).2 (k % h) (Nat.mod_lt k hh))
    obtain ⟨z,rfl,e2⟩:=optT_i e2
    rw [sameD_eq _ _ e2] at e1
    exact StepT.le (elem_s (rec0 ko 40).ev (rec0 ko 40).tst e1) (by decide)
  · rw [hr,hd,congrFun (List.filterMap_eq_map' (f:=onI .none fun m=>rS (m.toNat - 1))) _,List.map_map]
    rfl
  · rw [hd] at ha
    obtain ⟨b,hb,e⟩:=List.mem_filterMap.mp ha
    obtain ⟨k,hk,rfl⟩:=List.mem_map.mp hb
    cases Option.some.inj e
    exact tabG_mem (g:=onI .none fun i=>rS (i.toNat % h)) (ntD_mem (in0 wv k hk))
  · rw [hd]
    exact Nat.le_trans (List.length_filterMap_le ..) (Nat.le_trans (Nat.le_of_eq (List.length_map ..)) sel_len))
theorem F935c_s {T : Tab} (ht : TabOk G T) : FnOk G 151 935 (F935c T):=fun args σ=>.oo fun r h0=>.gd fun h=>.yes (called_ok ko ht fun b hb=>by
  cases b with
  | zero=>exact h0
  | succ b=>exact isRes_i (e:=⟨[],[],r.1,r.2⟩) (allN_i h b (Nat.lt_of_succ_lt_succ hb)))
theorem facts_W {V : Vx} {w : Wh} (wv : WhV V w.many) (hp : w.ax = true → (selN V w.many).length = w.p) : FactsOk V (factsW w) ∧ FactsOk V (factsI w):=by
  unfold factsW factsI
  cases q : w.ax with
  | false=>exact ⟨FactsOk.nil V [],FactsOk.nil V []⟩
  | true =>
    have hl : (den V.val (pW w.many)).length = w.p:=by rw [denW wv,List.length_map,hp q]
    have hm : w.many = w.h * w.c:=by unfold Wh.many; rw [(bA_i q).1]; rfl
    have db:=den_both (h:=w.h) (c:=w.c) wv (Nat.lt_of_lt_of_le (Nat.zero_lt_one) (Nat.le_add_right 1 w.hi)) hm
    refine ⟨⟨two ?_ (two ?_ zero),two hl zero,zero,zero,zero⟩,⟨zero,two hl zero,zero,zero,zero⟩⟩
    · show PyData.eqvAll (pdDs (den V.val (toldX w.h w.c w.many))) (pdDs (den V.val (dueX w.h w.many))) = true
      rw [db.1,db.2]
      exact eqv_selfDs _
    · show PyData.eqvAll (pdDs (den V.val (pW w.many))) [] = Nat.beq w.p 0
      rw [← hl]
      cases den V.val (pW w.many) with
      | nil=>rfl
      | cons a r=>rfl
theorem TP_ok {w : Wh} (hd : ∀ e ∈ w.dr1,DrawOk G.V e) (hb : ∀ j k,G.V.bv (2000 + j + k + 1) = (G.V.bv (2000 + j + k)).dropLast) (h0 : G.V.val 1100 = drawn G.V.bv alT w.many 2003) (h1 : G.V.val 1101 = drawn G.V.bv alH w.many (2000 + (3 + w.many))) : TabOk G (TP w) :=
  tabOf_ok (FactsOk.nil G.V []) (two (.open (FnOk.le (Fdraw_ok ko hd) (by decide))) zero) (two (fun ρ σ=>(Fdrw_s ko e_shapes.1 (by decide) (fun k _=>hb 3 k) h0 ρ σ).mono fun _ h=>CoP.le h (by decide)) (two (fun ρ σ=>(Fdrw_s ko e_shapes.2.1 (by decide) (fun k _=>hb _ k) h1 ρ σ).mono fun _ h=>CoP.le h (by decide)) zero)) zero
theorem TW_ok {w : Wh} {a u : Nat} (hm : w.many ≤ 6) (wv : WhV G.V w.many) (hp : w.ax = true → (selN G.V w.many).length = w.p) (hd : ∀ e ∈ w.dr2 a u,DrawOk G.V e) : TabOk G (TW w a u):=by
  have f:=facts_W ko wv hp
  have tq : TabOk G (TQ w):=by
    refine tabOf_ok f.2 zero (two (fun ρ σ=>(Fidx_s ko hm wv e_shapes.2.2.1 x_shapes.1 (by kernel_rfl) (by kernel_rfl) (by kernel_rfl) ρ σ).mono fun _ h=>CoP.le h (by decide)) ?_) zero
    cases q : w.ax with
    | false=>exact zero
    | true =>
      have hm : w.many = w.h * w.c:=by unfold Wh.many; rw [(bA_i q).1]; rfl
      exact two (fun ρ σ=>(F650_s ko (Nat.lt_of_lt_of_le (Nat.zero_lt_one) (Nat.le_add_right 1 w.hi)) hm wv (hp q) ρ σ).mono fun _ h=>CoP.le h (by decide)) zero
  have lo : ∀ {a as st},CallOk G 100 (a,false,lz 99 (TQ w) a as st):=.open (FnOk.le (lz_ok ko tq) (by decide))
  have ti : TabOk G (TWi w):=tabOf_ok (FactsOk.nil G.V []) (two (take_ok ko (by decide) tkWhich_k) (two (.open (FnOk.le (memo_ok fun e he=>chkFn_ok ko (tab0 G) (allL_i flags_k e he)) (by decide))) (two lo (two lo zero)))) zero zero
  exact tabOf_ok f.1 (two (.open (FnOk.le (Fdraw_ok ko hd) (by decide))) (two (.open (F935c_s ko ti)) zero))
    (two (fun ρ σ=>(F1017_s ko hm wv ρ σ).mono fun _ h=>CoP.le h (by decide)) (two (fun ρ σ=>(Fidx_s ko hm wv e_shapes.2.2.2.1 x_shapes.2 (by kernel_rfl) (by kernel_rfl) (by kernel_rfl) ρ σ).mono fun _ h=>CoP.le h (by decide)) zero)) zero
end
theorem kW00 (s : Int) (x : Nat) : wB0 0 0 s x = true:=by kernel_rfl
theorem kW01 (s : Int) (x : Nat) : wB0 0 1 s x = true:=by kernel_rfl
theorem kW02 (s : Int) (x : Nat) : wB0 0 2 s x = true:=by kernel_rfl
theorem kW03 (s : Int) (x : Nat) : wB0 0 3 s x = true:=by kernel_rfl
theorem kW04 (s : Int) (x : Nat) : wB0 0 4 s x = true:=by kernel_rfl
theorem kW05 (s : Int) (x : Nat) : wB0 0 5 s x = true:=by kernel_rfl
theorem kW10 (s : Int) (x : Nat) : wB0 1 0 s x = true:=by kernel_rfl
theorem kW11 (s : Int) (x : Nat) : wB0 1 1 s x = true:=by kernel_rfl
theorem kW12 (s : Int) (x : Nat) : wB0 1 2 s x = true:=by kernel_rfl
theorem kW13 (s : Int) (x : Nat) : wB0 1 3 s x = true:=by kernel_rfl
theorem kW14 (s : Int) (x : Nat) : wB0 1 4 s x = true:=by kernel_rfl
theorem kW15 (s : Int) (x : Nat) : wB0 1 5 s x = true:=by kernel_rfl
theorem kA000 (s : Int) : wB2 0 0 0 s = true:=by kernel_rfl
theorem kB0000 (s : Int) : wB3p 0 0 0 0 s = true:=by kernel_rfl
theorem kB0001 (s : Int) : wB3p 0 0 0 1 s = true:=by kernel_rfl
theorem kB000 : ∀ p ∈ [0,1],∀ s,wB3p 0 0 0 p s = true:=two kB0000 (two kB0001 zero)
theorem kA001 (s : Int) : wB2 0 0 1 s = true:=by kernel_rfl
theorem kB0010 (s : Int) : wB3p 0 0 1 0 s = true:=by kernel_rfl
theorem kB0011 (s : Int) : wB3p 0 0 1 1 s = true:=by kernel_rfl
theorem kB001 : ∀ p ∈ [0,1],∀ s,wB3p 0 0 1 p s = true:=two kB0010 (two kB0011 zero)
theorem kA010 (s : Int) : wB2 0 1 0 s = true:=by kernel_rfl
theorem kB0100 (s : Int) : wB3p 0 1 0 0 s = true:=by kernel_rfl
theorem kB0101 (s : Int) : wB3p 0 1 0 1 s = true:=by kernel_rfl
theorem kB0102 (s : Int) : wB3p 0 1 0 2 s = true:=by kernel_rfl
theorem kB010 : ∀ p ∈ [0,1,2],∀ s,wB3p 0 1 0 p s = true:=two kB0100 (two kB0101 (two kB0102 zero))
theorem kA011 (s : Int) : wB2 0 1 1 s = true:=by kernel_rfl
theorem kB0110 (s : Int) : wB3p 0 1 1 0 s = true:=by kernel_rfl
theorem kB0111 (s : Int) : wB3p 0 1 1 1 s = true:=by kernel_rfl
theorem kB0112 (s : Int) : wB3p 0 1 1 2 s = true:=by kernel_rfl
theorem kB011 : ∀ p ∈ [0,1,2],∀ s,wB3p 0 1 1 p s = true:=two kB0110 (two kB0111 (two kB0112 zero))
theorem kA100 (s : Int) : wB2 1 0 0 s = true:=by kernel_rfl
theorem kB1000 (s : Int) : wB3p 1 0 0 0 s = true:=by kernel_rfl
theorem kB1001 (s : Int) : wB3p 1 0 0 1 s = true:=by kernel_rfl
theorem kB1002 (s : Int) : wB3p 1 0 0 2 s = true:=by kernel_rfl
theorem kB100 : ∀ p ∈ [0,1,2],∀ s,wB3p 1 0 0 p s = true:=two kB1000 (two kB1001 (two kB1002 zero))
theorem kA101 (s : Int) : wB2 1 0 1 s = true:=by kernel_rfl
theorem kB1010 (s : Int) : wB3p 1 0 1 0 s = true:=by kernel_rfl
theorem kB1011 (s : Int) : wB3p 1 0 1 1 s = true:=by kernel_rfl
theorem kB1012 (s : Int) : wB3p 1 0 1 2 s = true:=by kernel_rfl
theorem kB101 : ∀ p ∈ [0,1,2],∀ s,wB3p 1 0 1 p s = true:=two kB1010 (two kB1011 (two kB1012 zero))
theorem kA110 (s : Int) : wB2 1 1 0 s = true:=by kernel_rfl
theorem kB1100 (s : Int) : wB3p 1 1 0 0 s = true:=by kernel_rfl
theorem kB1101 (s : Int) : wB3p 1 1 0 1 s = true:=by kernel_rfl
theorem kB1102 (s : Int) : wB3p 1 1 0 2 s = true:=by kernel_rfl
theorem kB1103 (s : Int) : wB3p 1 1 0 3 s = true:=by kernel_rfl
theorem kB1104 (s : Int) : wB3p 1 1 0 4 s = true:=by kernel_rfl
theorem kB110 : ∀ p ∈ [0,1,2,3,4],∀ s,wB3p 1 1 0 p s = true:=two kB1100 (two kB1101 (two kB1102 (two kB1103 (two kB1104 zero))))
theorem kA111 (s : Int) : wB2 1 1 1 s = true:=by kernel_rfl
theorem kB1110 (s : Int) : wB3p 1 1 1 0 s = true:=by kernel_rfl
theorem kB1111 (s : Int) : wB3p 1 1 1 1 s = true:=by kernel_rfl
theorem kB1112 (s : Int) : wB3p 1 1 1 2 s = true:=by kernel_rfl
theorem kB1113 (s : Int) : wB3p 1 1 1 3 s = true:=by kernel_rfl
theorem kB1114 (s : Int) : wB3p 1 1 1 4 s = true:=by kernel_rfl
theorem kB111 : ∀ p ∈ [0,1,2,3,4],∀ s,wB3p 1 1 1 p s = true:=two kB1110 (two kB1111 (two kB1112 (two kB1113 (two kB1114 zero))))
theorem kA200 (s : Int) : wB2 2 0 0 s = true:=by kernel_rfl
theorem kB2000 (s : Int) : wB3p 2 0 0 0 s = true:=by kernel_rfl
theorem kB2001 (s : Int) : wB3p 2 0 0 1 s = true:=by kernel_rfl
theorem kB2002 (s : Int) : wB3p 2 0 0 2 s = true:=by kernel_rfl
theorem kB2003 (s : Int) : wB3p 2 0 0 3 s = true:=by kernel_rfl
theorem kB200 : ∀ p ∈ [0,1,2,3],∀ s,wB3p 2 0 0 p s = true:=two kB2000 (two kB2001 (two kB2002 (two kB2003 zero)))
theorem kA201 (s : Int) : wB2 2 0 1 s = true:=by kernel_rfl
theorem kB2010 (s : Int) : wB3p 2 0 1 0 s = true:=by kernel_rfl
theorem kB2011 (s : Int) : wB3p 2 0 1 1 s = true:=by kernel_rfl
theorem kB2012 (s : Int) : wB3p 2 0 1 2 s = true:=by kernel_rfl
theorem kB2013 (s : Int) : wB3p 2 0 1 3 s = true:=by kernel_rfl
theorem kB201 : ∀ p ∈ [0,1,2,3],∀ s,wB3p 2 0 1 p s = true:=two kB2010 (two kB2011 (two kB2012 (two kB2013 zero)))
theorem kA210 (s : Int) : wB2 2 1 0 s = true:=by kernel_rfl
theorem kB2100 (s : Int) : wB3p 2 1 0 0 s = true:=by kernel_rfl
theorem kB2101 (s : Int) : wB3p 2 1 0 1 s = true:=by kernel_rfl
theorem kB2102 (s : Int) : wB3p 2 1 0 2 s = true:=by kernel_rfl
theorem kB2103 (s : Int) : wB3p 2 1 0 3 s = true:=by kernel_rfl
theorem kB2104 (s : Int) : wB3p 2 1 0 4 s = true:=by kernel_rfl
theorem kB2105 (s : Int) : wB3p 2 1 0 5 s = true:=by kernel_rfl
theorem kB2106 (s : Int) : wB3p 2 1 0 6 s = true:=by kernel_rfl
theorem kB210 : ∀ p ∈ [0,1,2,3,4,5,6],∀ s,wB3p 2 1 0 p s = true:=two kB2100 (two kB2101 (two kB2102 (two kB2103 (two kB2104 (two kB2105 (two kB2106 zero))))))
theorem kA211 (s : Int) : wB2 2 1 1 s = true:=by kernel_rfl
theorem kB2110 (s : Int) : wB3p 2 1 1 0 s = true:=by kernel_rfl
theorem kB2111 (s : Int) : wB3p 2 1 1 1 s = true:=by kernel_rfl
theorem kB2112 (s : Int) : wB3p 2 1 1 2 s = true:=by kernel_rfl
theorem kB2113 (s : Int) : wB3p 2 1 1 3 s = true:=by kernel_rfl
theorem kB2114 (s : Int) : wB3p 2 1 1 4 s = true:=by kernel_rfl
theorem kB2115 (s : Int) : wB3p 2 1 1 5 s = true:=by kernel_rfl
theorem kB2116 (s : Int) : wB3p 2 1 1 6 s = true:=by kernel_rfl
theorem kB211 : ∀ p ∈ [0,1,2,3,4,5,6],∀ s,wB3p 2 1 1 p s = true:=two kB2110 (two kB2111 (two kB2112 (two kB2113 (two kB2114 (two kB2115 (two kB2116 zero))))))
noncomputable def dN (B : List Int) (i m : Nat) : Nat:=(drawV (less B i) m).toNat
theorem dN_lt {B : List Int} {i m : Nat} (h : 0 < m) : dN B i m < m:=(toNat_draw h).2
noncomputable def wh0 (B : List Int) : Wh:=⟨dN B 0 3,dN B 1 3,dN B 2 (bI (Nat.beq (dN B 0 3) 2) 2 6),0,0,false⟩
noncomputable def whI (B : List Int) : Nat:=3 + (wh0 B).many + (wh0 B).mid
noncomputable def whX (B : List Int) : Bool:=bA (Nat.beq (dN B 0 3) 2) (Nat.beq (dN B (whI B) 3) 1)
noncomputable def whOf (B : List Int) (pp : Nat) : Wh:=⟨dN B 0 3,dN B 1 3,dN B 2 (bI (Nat.beq (dN B 0 3) 2) 2 6),bI (Nat.beq (dN B 0 3) 2) (dN B (3 + (wh0 B).many) 2) 0,bI (whX B) pp 0,whX B⟩
noncomputable def bvW (V : Vx) (q : Nat) : Nat → List Int:=fun i=>bI (Nat.blt i 2000) (V.bv i) (less (V.bv q) (i - 2000))
noncomputable def vW (V : Vx) (q n : Nat) : Vx:={ V with bv:=bvW V q,val:=fun i=>bI (Nat.beq i 1100) (drawn (bvW V q) alT n 2003) (bI (Nat.beq i 1101) (drawn (bvW V q) alH n (2000 + (3 + n))) (V.val i)) }
theorem bvW_at {V : Vx} {q i : Nat} : bvW V q (2000 + i) = less (V.bv q) i:=by
  unfold bvW
  rw [Bool.eq_false_iff.mpr fun h=>absurd (Nat.blt_eq.mp h) (Nat.not_lt.mpr (Nat.le_add_right 2000 i)),Nat.add_sub_cancel_left]
  rfl
theorem bvW_next {V : Vx} {q i : Nat} : bvW V q (2000 + i + 1) = (bvW V q (2000 + i)).dropLast:=by
  rw [bvW_at,less_drop,Nat.add_assoc]
  exact bvW_at (i:=i + 1)
theorem whV {V : Vx} {q n : Nat} : WhV (vW V q n) n:=⟨drawn_len n _,drawn_mem (by decide) n _,drawn_len n _,drawn_mem (by decide) n _⟩
theorem drawW {V : Vx} {q n i m : Nat} (hm : 0 < m) : DrawOk (vW V q n) (2000 + i,(m : Int),(dN (V.bv q) i m : Int),2000 + i + 1):=drawOk_of hm bvW_at bvW_next rfl
theorem many_le (B : List Int) (pp : Nat) : (whOf B pp).many ≤ 6:=by
  show bI (Nat.beq (dN B 0 3) 2) ((1 + dN B 1 3) * (1 + dN B 2 (bI (Nat.beq (dN B 0 3) 2) 2 6))) (dN B 2 (bI (Nat.beq (dN B 0 3) 2) 2 6)) ≤ 6
  cases Nat.beq (dN B 0 3) 2 with
  | false=>exact Nat.le_of_lt (dN_lt (by decide))
  | true=>exact Nat.mul_le_mul (Nat.add_le_add_left (Nat.le_of_lt_succ (dN_lt (m:=3) (by decide))) 1) (Nat.add_le_add_left (Nat.le_of_lt_succ (dN_lt (m:=2) (by decide))) 1)
theorem drawsW {V : Vx} {q pp : Nat} : ∀ e ∈ (whOf (V.bv q) pp).dr1,DrawOk (vW V q (whOf (V.bv q) pp).many) e:=by
  have m26 : ∀ b : Bool,0 < bI b 2 6:=fun b=>by cases b <;> decide
  refine two (drawW (i:=0) (m:=3) (by decide)) (two (drawW (i:=1) (m:=3) (by decide)) (two (drawW (i:=2) (m26 _)) ?_))
  show ∀ e ∈ bI (Nat.beq (dN (V.bv q) 0 3) 2) [(2000 + (3 + (wh0 (V.bv q)).many),(2 : Int),((bI (Nat.beq (dN (V.bv q) 0 3) 2) (dN (V.bv q) (3 + (wh0 (V.bv q)).many) 2) 0 : Nat) : Int),2000 + (3 + (wh0 (V.bv q)).many + bI (Nat.beq (dN (V.bv q) 0 3) 1) (wh0 (V.bv q)).many (bI (Nat.beq (dN (V.bv q) 0 3) 2) 1 0)))] [],_
  cases h : Nat.beq (dN (V.bv q) 0 3) 2 with
  | false=>exact zero
  | true =>
    rw [Nat.eq_of_beq_eq_true h]
    exact two (drawW (i:=3 + (wh0 (V.bv q)).many) (m:=2) (by decide)) zero
theorem mr3 {k : Nat} (h : k < 3) : k ∈ r3:=List.mem_range.mpr h
theorem mr2 {k : Nat} (h : k < 2) : k ∈ r2:=List.mem_range.mpr h
theorem runs0 : ∀ m ∈ r6,∀ s x,wB0 0 m s x = true ∧ wB0 1 m s x = true:=two (fun s x=>⟨kW00 s x,kW10 s x⟩) (two (fun s x=>⟨kW01 s x,kW11 s x⟩) (two (fun s x=>⟨kW02 s x,kW12 s x⟩) (two (fun s x=>⟨kW03 s x,kW13 s x⟩) (two (fun s x=>⟨kW04 s x,kW14 s x⟩) (two (fun s x=>⟨kW05 s x,kW15 s x⟩) zero)))))
theorem runs2 : ∀ h ∈ r3,∀ c ∈ r2,∀ d ∈ r2,(∀ s,wB2 h c d s = true) ∧ ∀ p ∈ List.range ((1 + h) * (1 + c) + 1),∀ s,wB3p h c d p s = true:=two
  (two (two ⟨kA000,kB000⟩ (two ⟨kA001,kB001⟩ zero)) (two (two ⟨kA010,kB010⟩ (two ⟨kA011,kB011⟩ zero)) zero)) (two
  (two (two ⟨kA100,kB100⟩ (two ⟨kA101,kB101⟩ zero)) (two (two ⟨kA110,kB110⟩ (two ⟨kA111,kB111⟩ zero)) zero)) (two
  (two (two ⟨kA200,kB200⟩ (two ⟨kA201,kB201⟩ zero)) (two (two ⟨kA210,kB210⟩ (two ⟨kA211,kB211⟩ zero)) zero)) zero))
theorem chkW_all (B : List Int) (pp : Nat) (hp : pp ≤ (whOf B pp).many) (s : Int) : chkW s (whOf B pp) (dN B (whI B) 3) (dN B (whI B + 1) 3) = true:=by
  have e : dN B 0 3 = 0 ∨ dN B 0 3 = 1 ∨ dN B 0 3 = 2:=by have:=dN_lt (B:=B) (i:=0) (m:=3) (by decide); omega
  have ha:=dN_lt (B:=B) (i:=whI B) (m:=3) (by decide)
  have hu:=mr3 (dN_lt (B:=B) (i:=whI B + 1) (m:=3) (by decide))
  unfold whOf whX at hp ⊢
  rcases e with e | e | e
  · rw [e]
    exact allL_i (allL_i (runs0 _ (mem6 (dN_lt (by decide))) s _).1 _ (mr3 ha)) _ hu
  · rw [e]
    exact allL_i (allL_i (runs0 _ (mem6 (dN_lt (by decide))) s _).2 _ (mr3 ha)) _ hu
  · rw [e] at hp ⊢
    have r:=runs2 _ (mr3 (dN_lt (B:=B) (i:=1) (by decide))) _ (mr2 (dN_lt (B:=B) (i:=2) (by decide))) _ (mr2 (dN_lt (B:=B) (i:=3 + (wh0 B).many) (by decide)))
    generalize dN B (whI B) 3 = A at ha hp ⊢
    cases q : Nat.beq A 1 with
    | true =>
      cases Nat.eq_of_beq_eq_true q
      exact allL_i (r.2 pp (List.mem_range.mpr (Nat.lt_succ_of_le hp)) s) _ hu
    | false =>
      refine allL_i (allL_i (r.1 s) A ?_) _ hu
      have e : A = 0 ∨ A = 1 ∨ A = 2:=by omega
      rcases e with rfl | rfl | rfl
      · exact .head _
      · exact nT q.symm
      · exact .tail _ (.head _)
noncomputable def whN (B : List Int) : Nat:=whI B + 2
theorem which_ok {G : Cx} (ko : KOk3 G) {q q' : Nat} (hq : G.V.bv q' = less (G.V.bv q) (whN (G.V.bv q))) (s : Int) : FnT G 200 976 [.ref 0,.d (.int s)] [.bd q] (.d (.bool true)) [.bd q']:=by
  have wv : WhV (vW G.V q (wh0 (G.V.bv q)).many) (wh0 (G.V.bv q)).many:=whV
  have t1 : TabOk (G.vx (vW G.V q (wh0 (G.V.bv q)).many)) (TP (whOf (G.V.bv q) (selN (vW G.V q (wh0 (G.V.bv q)).many) (wh0 (G.V.bv q)).many).length)):=TP_ok (ko.vx _) drawsW (fun j k=>by rw [Nat.add_assoc 2000 j k]; exact bvW_next) rfl rfl
  have t2:=TW_ok (ko.vx (vW G.V q (wh0 (G.V.bv q)).many)) (w:=whOf (G.V.bv q) (selN (vW G.V q (wh0 (G.V.bv q)).many) (wh0 (G.V.bv q)).many).length) (many_le _ _) wv (fun ha=>(congrArg (fun b=>bI b _ 0) (bA_i ha).2).symm) (two (drawW (i:=whI (G.V.bv q)) (m:=3) (by decide)) (two (drawW (i:=whI (G.V.bv q) + 1) (m:=3) (by decide)) zero))
  exact FnT.swapV (V':=vW G.V q (wh0 (G.V.bv q)).many) rfl (chkW_ok (ko.vx _) t1 t2 (chkW_all _ _ sel_len s)) (.one (.bd ((bvW_at (i:=0)).trans List.take_length))) (.one (.bd (hq.trans (bvW_at (i:=whI (G.V.bv q) + 2)).symm)))
theorem hasD_of {x : D} {l : List D} (h : x ∈ l) : hasD x l = true:=by
  induction h with
  | head r =>
    show bI (sameD x x) true _ = true
    rw [sameD_self]
    rfl
  | tail b _ ih =>
    show bI (sameD b x) true (hasD x _) = true
    rw [ih]
    cases sameD b x <;> rfl
theorem hasD_congr {x : D} {l m : List D} (h : x ∈ l ↔ x ∈ m) : hasD x l = hasD x m:=by
  cases q : hasD x l with
  | true=>exact (hasD_of (h.mp (hasD_i q))).symm
  | false =>
    cases q' : hasD x m with
    | false=>rfl
    | true=>exact nT (q.symm.trans (hasD_of (h.mpr (hasD_i q'))))
section
variable {f g : D → D} {M : D → Prop} (hM : ∀ a b,M a → M b → sameD (f b) (f a) = sameD (g b) (g a))
include hM
theorem hasD_same {x : D} (hx : M x) {l : List D} (h : ∀ b ∈ l,M b) : hasD (f x) (l.map f) = hasD (g x) (l.map g):=by
  induction l with
  | nil=>rfl
  | cons b l ih =>
    show bI (sameD (f b) (f x)) true (hasD (f x) (l.map f)) = bI (sameD (g b) (g x)) true (hasD (g x) (l.map g))
    rw [hM x b hx (h b (.head _)),ih fun c hc=>h c (.tail _ hc)]
theorem keepF_same {xs : List D} : ∀ {seen : List D},(∀ a ∈ xs,M a) → (∀ b ∈ seen,M b) → keepF (seen.map f) (xs.map f) xs = keepF (seen.map g) (xs.map g) xs:=by
  induction xs with
  | nil=>exact fun _ _=>rfl
  | cons x r ih =>
    intro seen h1 h2
    have t:=ih (seen:=seen ++ [x]) (fun a ha=>h1 a (.tail _ ha)) fun b hb=>(List.mem_append.mp hb).elim (h2 b) fun hb=>List.mem_singleton.mp hb ▸ h1 x (.head _)
    rw [List.map_append,List.map_append] at t
    show bI (hasD (f x) (seen.map f)) (keepF (seen.map f ++ [f x]) (r.map f) r) (x :: keepF (seen.map f ++ [f x]) (r.map f) r) = bI (hasD (g x) (seen.map g)) (keepF (seen.map g ++ [g x]) (r.map g) r) (x :: keepF (seen.map g ++ [g x]) (r.map g) r)
    rw [hasD_same hM (h1 x (.head _)) h2,show keepF (seen.map f ++ [f x]) (r.map f) r = keepF (seen.map g ++ [g x]) (r.map g) r from t]
theorem keepB_same {xs : List D} (h : ∀ a ∈ xs,M a) : keepB (xs.map f) xs = keepB (xs.map g) xs:=by
  induction xs with
  | nil=>rfl
  | cons x r ih =>
    show bI (hasD (f x) (r.map f)) (keepB (r.map f) r) (x :: keepB (r.map f) r) = bI (hasD (g x) (r.map g)) (keepB (r.map g) r) (x :: keepB (r.map g) r)
    rw [hasD_same hM (h x (.head _)) fun b hb=>h b (.tail _ hb),ih fun b hb=>h b (.tail _ hb)]
end
theorem keepF_take {ks : List D} : ∀ {seen xs : List D} {k : Nat} {x y : D},xs[k]? = some x → ks[k]? = some y → keepF seen ks (xs.take (k + 1)) = keepF seen ks (xs.take k) ++ bI (hasD y (seen ++ ks.take k)) [] [x]:=by
  induction ks with
  | nil=>exact fun _ h=>nS h
  | cons z ks ih =>
    intro seen xs k x y hx hy
    cases xs with
    | nil=>exact nS hx
    | cons a xs =>
      cases k with
      | zero =>
        cases (show some a = some x from hx)
        cases (show some z = some y from hy)
        show bI (hasD z seen) (keepF (seen ++ [z]) ks []) (x :: keepF (seen ++ [z]) ks []) = bI (hasD z (seen ++ [])) [] [x]
        rw [List.append_nil,show keepF (seen ++ [z]) ks [] = [] by cases ks <;> rfl]
      | succ k =>
        have t:=ih (seen:=seen ++ [z]) (xs:=xs) (k:=k) hx hy
        rw [List.append_assoc] at t
        show bI (hasD z seen) (keepF (seen ++ [z]) ks (xs.take (k + 1))) (a :: keepF (seen ++ [z]) ks (xs.take (k + 1))) = bI (hasD z seen) (keepF (seen ++ [z]) ks (xs.take k)) (a :: keepF (seen ++ [z]) ks (xs.take k)) ++ bI (hasD y (seen ++ ([z] ++ ks.take k))) [] [x]
        rw [t]
        cases hasD z seen <;> rfl
theorem keepB_take {ks : List D} : ∀ {xs : List D} {k : Nat} {x y : D},xs[k]? = some x → ks[k]? = some y → keepB ks (xs.take (k + 1)) = keepB ks (xs.take k) ++ bI (hasD y (ks.drop (k + 1))) [] [x]:=by
  induction ks with
  | nil=>exact fun _ h=>nS h
  | cons z ks ih =>
    intro xs k x y hx hy
    cases xs with
    | nil=>exact nS hx
    | cons a xs =>
      cases k with
      | zero =>
        cases (show some a = some x from hx)
        cases (show some z = some y from hy)
        show bI (hasD z ks) (keepB ks []) (x :: keepB ks []) = bI (hasD z ks) [] [x]
        rw [show keepB ks [] = [] by cases ks <;> rfl]
      | succ k =>
        show bI (hasD z ks) (keepB ks (xs.take (k + 1))) (a :: keepB ks (xs.take (k + 1))) = bI (hasD z ks) (keepB ks (xs.take k)) (a :: keepB ks (xs.take k)) ++ bI (hasD y (ks.drop (k + 1))) [] [x]
        rw [ih (xs:=xs) (k:=k) hx hy]
        cases hasD z ks <;> rfl
theorem keepF_sub {ks : List D} : ∀ {seen xs : List D},(keepF seen ks xs).length ≤ xs.length ∧ ∀ a ∈ keepF seen ks xs,a ∈ xs:=by
  induction ks with
  | nil=>exact ⟨Nat.zero_le _,zero⟩
  | cons z ks ih =>
    intro seen xs
    cases xs with
    | nil=>exact ⟨Nat.le_refl _,zero⟩
    | cons x xs =>
      have t:=ih (seen:=seen ++ [z]) (xs:=xs)
      show (bI (hasD z seen) (keepF (seen ++ [z]) ks xs) (x :: keepF (seen ++ [z]) ks xs)).length ≤ xs.length + 1 ∧ ∀ a ∈ bI (hasD z seen) (keepF (seen ++ [z]) ks xs) (x :: keepF (seen ++ [z]) ks xs),_
      cases hasD z seen with
      | true=>exact ⟨Nat.le_succ_of_le t.1,fun a ha=>.tail _ (t.2 a ha)⟩
      | false=>exact ⟨Nat.succ_le_succ t.1,two (.head _) fun a ha=>.tail _ (t.2 a ha)⟩
theorem keepB_sub {ks : List D} : ∀ {xs : List D},(keepB ks xs).length ≤ xs.length ∧ ∀ a ∈ keepB ks xs,a ∈ xs:=by
  induction ks with
  | nil=>exact ⟨Nat.zero_le _,zero⟩
  | cons z ks ih =>
    intro xs
    cases xs with
    | nil=>exact ⟨Nat.le_refl _,zero⟩
    | cons x xs =>
      have t:=ih (xs:=xs)
      show (bI (hasD z ks) (keepB ks xs) (x :: keepB ks xs)).length ≤ xs.length + 1 ∧ ∀ a ∈ bI (hasD z ks) (keepB ks xs) (x :: keepB ks xs),_
      cases hasD z ks with
      | true=>exact ⟨Nat.le_succ_of_le t.1,fun a ha=>.tail _ (t.2 a ha)⟩
      | false=>exact ⟨Nat.succ_le_succ t.1,two (.head _) fun a ha=>.tail _ (t.2 a ha)⟩
theorem plcN_pre {x : D} {suf : List D} (pre : List D) : ∀ n,plcN x (pre ++ x :: suf) n = bI (hasD x pre) (plcN x pre n) (some (n + pre.length)):=by
  induction pre with
  | nil =>
    intro n
    show bI (sameD x x) (some n) _ = some n
    rw [sameD_self]
    rfl
  | cons y pre ih =>
    intro n
    show bI (sameD y x) (some n) (plcN x (pre ++ x :: suf) (n + 1)) = bI (bI (sameD y x) true (hasD x pre)) (bI (sameD y x) (some n) (plcN x pre (n + 1))) (some (n + (pre.length + 1)))
    rw [ih (n + 1),Nat.add_right_comm]
    cases sameD y x <;> rfl
noncomputable def TTf (k : Nat) : List (D × Option D):=(List.range 5).map fun (d : Nat)=>(D.int (d : Int),bI (Nat.beq d k) (some (D.int (k : Int))) none)
noncomputable def TTg (k : Nat) : List (D × Option D):=(List.range 5).map fun (d : Nat)=>(D.int (d : Int),bI (Nat.beq d k) (some (D.int 0)) (some (D.int 1)))
noncomputable def TSf : List (List (D × Option D)):=(List.range' 0 5).map TTf
noncomputable def TSg : List (List (D × Option D)):=(List.range' 0 5).map TTg
noncomputable def alG : List D:=someOfs TSg
noncomputable def TT0 (k : Nat) : List (D × Option D):=alG.map fun a=>(a,bI (sameD a (.int 0)) (some (D.int (k : Int))) none)
noncomputable def TS0 : List (List (D × Option D)):=(List.range' 0 5).map TT0
theorem TT_at {k : Nat} : ∀ d ∈ r5,tabD (TTf k) (.int ((d : Nat) : Int)) = bI (Nat.beq d k) (some (D.int (k : Int))) none ∧ tabD (TTg k) (.int ((d : Nat) : Int)) = bI (Nat.beq d k) (some (D.int 0)) (some (D.int 1)):=two ⟨rfl,rfl⟩ (two ⟨rfl,rfl⟩ (two ⟨rfl,rfl⟩ (two ⟨rfl,rfl⟩ (two ⟨rfl,rfl⟩ zero))))
section
variable {f : D → D} {all : List D}
theorem plc_pre {pre r : List D} {x : D} (hl : all.length ≤ 5) (he : all = pre ++ x :: r) : ∃ i ∈ r5,plcD (all.map f) (f x) = .int ((i : Nat) : Int) ∧ Nat.beq i pre.length = !(hasD (f x) (pre.map f)):=by
  have e:=plcN_pre (x:=f x) (suf:=r.map f) (pre.map f) 0
  have hp : pre.length < 5:=Nat.lt_of_lt_of_le (by rw [he,List.length_append]; exact Nat.lt_add_of_pos_right (Nat.succ_pos _)) hl
  unfold plcD
  rw [he,List.map_append,List.map_cons,e,List.length_map,Nat.zero_add]
  cases q : hasD (f x) (pre.map f) with
  | false=>exact ⟨pre.length,mem5 hp,rfl,Nat.beq_refl _⟩
  | true =>
    obtain ⟨k,hk⟩:=List.getElem?_of_mem (hasD_i q)
    have e2:=plcN_take (pre.map f) (n:=0) hk
    have lt:=plcN_in e2 (Nat.le_of_eq (List.length_map ..))
    rw [e2]
    refine ⟨_,mem5 (Nat.lt_trans lt hp),rfl,?_⟩
    show Nat.beq _ _ = false
    cases q : Nat.beq _ pre.length with
    | false=>rfl
    | true=>exact absurd (Nat.eq_of_beq_eq_true q) (Nat.ne_of_lt lt)
theorem at_pre {pre r : List D} {x : D} (he : all = pre ++ x :: r) : atD all (.int (pre.length : Int)) = x:=by
  show (all[pre.length]?).getD .none = x
  rw [he,List.getElem?_append_right (Nat.le_refl _),Nat.sub_self]
  rfl
theorem firsts_at (hl : all.length ≤ 5) {suf : List D} : ∀ {pre : List D} {N : Nat},all = pre ++ suf → suf.length ≤ N → (idxMap ((List.range' pre.length N).map TTf) ((suf.map f).map (plcD (all.map f)))).map (atD all) = keepF (pre.map f) (suf.map f) suf:=by
  induction suf with
  | nil=>exact fun {pre N} _ _=>by cases N <;> rfl
  | cons x r ih =>
    intro pre N he hN
    cases N with
    | zero=>exact absurd hN (Nat.not_succ_le_zero _)
    | succ N =>
      have t:=ih (pre:=pre ++ [x]) (N:=N) (by rw [he,List.append_assoc]; rfl) (Nat.le_of_succ_le_succ hN)
      obtain ⟨i,hi,e1,e2⟩:=plc_pre (f:=f) hl he
      rw [List.length_append,List.map_append] at t
      show (@Option.rec D (fun _=>List D) (idxMap ((List.range' (pre.length + 1) N).map TTf) ((r.map f).map (plcD (all.map f)))) (fun y=>y :: idxMap ((List.range' (pre.length + 1) N).map TTf) ((r.map f).map (plcD (all.map f)))) (tabD (TTf pre.length) (plcD (all.map f) (f x)))).map (atD all) = bI (hasD (f x) (pre.map f)) (keepF (pre.map f ++ [f x]) (r.map f) r) (x :: keepF (pre.map f ++ [f x]) (r.map f) r)
      rw [e1,(TT_at i hi).1,e2]
      cases hasD (f x) (pre.map f) with
      | true=>exact t
      | false=>exact c2 List.cons (at_pre he) t
noncomputable def flag (b : Bool) : D:=bI b (.int 1) (.int 0)
noncomputable def flg (f : D → D) : List D → List D → List D:=@List.rec D (fun _=>List D → List D) (fun _=>[]) fun x _ ih pre=>flag (hasD (f x) (pre.map f)) :: ih (pre ++ [x])
noncomputable def flb (f : D → D) : List D → List D:=@List.rec D (fun _=>List D) [] fun x r ih=>flag (hasD (f x) (r.map f)) :: ih
theorem flags_at (hl : all.length ≤ 5) {suf : List D} : ∀ {pre : List D} {N : Nat},all = pre ++ suf → suf.length ≤ N → idxMap ((List.range' pre.length N).map TTg) ((suf.map f).map (plcD (all.map f))) = flg f suf pre:=by
  induction suf with
  | nil=>exact fun {pre N} _ _=>by cases N <;> rfl
  | cons x r ih =>
    intro pre N he hN
    cases N with
    | zero=>exact absurd hN (Nat.not_succ_le_zero _)
    | succ N =>
      have t:=ih (pre:=pre ++ [x]) (N:=N) (by rw [he,List.append_assoc]; rfl) (Nat.le_of_succ_le_succ hN)
      obtain ⟨i,hi,e1,e2⟩:=plc_pre (f:=f) hl he
      rw [List.length_append] at t
      show @Option.rec D (fun _=>List D) (idxMap ((List.range' (pre.length + 1) N).map TTg) ((r.map f).map (plcD (all.map f)))) (fun y=>y :: idxMap ((List.range' (pre.length + 1) N).map TTg) ((r.map f).map (plcD (all.map f)))) (tabD (TTg pre.length) (plcD (all.map f) (f x))) = flag (hasD (f x) (pre.map f)) :: flg f r (pre ++ [x])
      rw [e1,(TT_at i hi).2,e2]
      cases hasD (f x) (pre.map f) <;> exact congrArg (_ :: ·) t
theorem flg_append {b : List D} (a : List D) : ∀ pre,flg f (a ++ b) pre = flg f a pre ++ flg f b (pre ++ a):=by
  induction a with
  | nil=>exact fun pre=>by rw [List.append_nil]; rfl
  | cons x a ih=>exact fun pre=>congrArg (flag (hasD (f x) (pre.map f)) :: ·) ((ih (pre ++ [x])).trans (by rw [List.append_assoc]; rfl))
theorem flags_rev (X : List D) : (flg f X.reverse []).reverse = flb f X:=by
  induction X with
  | nil=>rfl
  | cons x r ih =>
    rw [List.reverse_cons,flg_append,List.reverse_append,ih]
    show flag (hasD (f x) (([] ++ r.reverse).map f)) :: flb f r = flag (hasD (f x) (r.map f)) :: flb f r
    rw [List.nil_append,List.map_reverse,hasD_congr List.mem_reverse]
theorem lasts_at {suf : List D} : ∀ {pre : List D} {N : Nat},all = pre ++ suf → suf.length ≤ N → (idxMap ((List.range' pre.length N).map TT0) (flb f suf)).map (atD all) = keepB (suf.map f) suf:=by
  induction suf with
  | nil=>exact fun {pre N} _ _=>by cases N <;> rfl
  | cons x r ih =>
    intro pre N he hN
    cases N with
    | zero=>exact absurd hN (Nat.not_succ_le_zero _)
    | succ N =>
      have t:=ih (pre:=pre ++ [x]) (N:=N) (by rw [he,List.append_assoc]; rfl) (Nat.le_of_succ_le_succ hN)
      rw [List.length_append] at t
      show (@Option.rec D (fun _=>List D) (idxMap ((List.range' (pre.length + 1) N).map TT0) (flb f r)) (fun y=>y :: idxMap ((List.range' (pre.length + 1) N).map TT0) (flb f r)) (tabD (TT0 pre.length) (flag (hasD (f x) (r.map f))))).map (atD all) = bI (hasD (f x) (r.map f)) (keepB (r.map f) r) (x :: keepB (r.map f) r)
      cases hasD (f x) (r.map f) with
      | true=>exact t
      | false=>exact c2 List.cons (at_pre he) t
end
theorem flb_len {f : D → D} (X : List D) : (flb f X).length = X.length:=by
  induction X with
  | nil=>rfl
  | cons x r ih=>exact congrArg (· + 1) ih
theorem tabD_mem {z : D} (t : List (D × Option D)) : Sat (tabD t z) fun y=>∃ p ∈ t,p.2 = some y:=.oo fun p e _ h=>⟨p,(Sat.findB t e).1,h⟩
theorem idx_places {TT : Nat → List (D × Option D)} (h : ∀ k,∀ p ∈ TT k,∀ y,p.2 = some y → y = D.int ((k : Nat) : Int)) {zs : List D} : ∀ {k N : Nat} {y : D},y ∈ idxMap ((List.range' k N).map TT) zs → ∃ j,j < k + zs.length ∧ y = .int ((j : Nat) : Int):=by
  induction zs with
  | nil=>exact fun {k N y} hy=>by cases N <;> exact (List.not_mem_nil hy).elim
  | cons z zs ih =>
    intro k N y hy
    cases N with
    | zero=>exact (List.not_mem_nil hy).elim
    | succ N =>
      have go : y ∈ idxMap ((List.range' (k + 1) N).map TT) zs → ∃ j,j < k + (zs.length + 1) ∧ y = .int ((j : Nat) : Int):=fun hy=>by
        obtain ⟨j,h1,e⟩:=ih hy
        exact ⟨j,by rw [Nat.add_right_comm] at h1; exact h1,e⟩
      have hy : y ∈ @Option.rec D (fun _=>List D) (idxMap ((List.range' (k + 1) N).map TT) zs) (fun y=>y :: idxMap ((List.range' (k + 1) N).map TT) zs) (tabD (TT k) z):=hy
      cases q : tabD (TT k) z with
      | none=>rw [q] at hy; exact go hy
      | some w =>
        rw [q] at hy
        obtain ⟨p,hp,e⟩:=tabD_mem (TT k) q
        exact (List.mem_cons.mp hy).elim (fun hy=>⟨k,Nat.lt_add_of_pos_right (Nat.succ_pos _),hy.trans (h k p hp w e)⟩) go
theorem TTf_ok (k : Nat) : ∀ p ∈ TTf k,∀ y,p.2 = some y → y = D.int ((k : Nat) : Int):=fun p hp y e=>by
  obtain ⟨d,_,rfl⟩:=List.mem_map.mp hp
  have e : bI (Nat.beq d k) (some (D.int (k : Int))) none = some y:=e
  cases q : Nat.beq d k <;> rw [q] at e
  · exact nS e
  · exact (Option.some.inj e).symm
theorem TT0_ok (k : Nat) : ∀ p ∈ TT0 k,∀ y,p.2 = some y → y = D.int ((k : Nat) : Int):=fun p hp y e=>by
  obtain ⟨d,_,rfl⟩:=List.mem_map.mp hp
  have e : bI (sameD d (.int 0)) (some (D.int (k : Int))) none = some y:=e
  cases q : sameD d (.int 0) <;> rw [q] at e
  · exact nS e
  · exact (Option.some.inj e).symm
noncomputable def keyStr (w : Nat) : List (D × Option D):=(K.nth [[(.int 1,some (sD "1")),(.int 0,some (sD "0")),(.none,some (sD "NA"))],
  [(.int 0,some (sD "0")),(.int 2,some (sD "2")),(.int 1,some (sD "1")),(.none,some (sD "NA")),(.int (-1),some (sD "-1"))],
  [(tD 1 1,some (sD "1/1")),(tD 0 1,some (sD "0/1")),(tD 1 2,some (sD "1/2")),(.none,some (sD "NA")),(tD 0 0,some (sD "0/0")),(tD 1 0,some (sD "1/0")),(tD 2 1,some (sD "2/1"))],
  [(sD "1",some (sD "=1")),(sD "b",some (sD "=b")),(sD "0.5",some (sD "=0.5")),(.none,some (sD "NA")),(sD "TRUE",some (sD "=TRUE")),(sD "0",some (sD "=0"))]] w).getD [(.int 2,some (sD "2")),(.int 3,some (sD "3")),(.int 1,some (sD "1")),(.none,some (sD "NA"))]
noncomputable def lU (w : Nat) : LX:=bI (isFac w) (.map codeT (.var 0)) (.var 0)
noncomputable def keyT (w : Nat) (b : Bool) : List (D × Option D):=tabG (keyD w b) (mnu w)
noncomputable def ku (w : Nat) : LX:=.map (keyT w false) (.var 0)
noncomputable def kU (w : Nat) (back : Bool) : LX:=.map (keyStr w) (bI back (.rev (lU w)) (lU w))
noncomputable def pU (w : Nat) (back : Bool) : LX:=bI back (.itab TS0 (.rev (.itab TSg (.fn 1 (kU w true) (kU w true))))) (.itab TSf (.fn 1 (kU w false) (kU w false)))
noncomputable def KP (w : Nat) (back : Bool) (X : LX) : LX:=.fn (bI back 3 2) (ku w) X
noncomputable def rU (w : Nat) (back : Bool) : LX:=bI (isFac w) (.map codeT (KP w back (.var 0))) (KP w back (.var 0))
noncomputable def alU (w : Nat) : List D:=bI (isFac w) [.int 2,.int 3,.int 1,.none] (mnu w)
noncomputable def sc96 : Scope:=scOf (stN 96)
noncomputable def e620 : Expr:=pa (sa (stAt (bodyOf (stN 96)) 0) 0) 2
noncomputable def F620 (w : Nat) (back : Bool) : FC:=fun ρ σ=>gd (compSc sc96 (lcSc e620) (nm "place") ρ) (obSy (iterOf (runF 40 T0) sc96 ρ (pa e620 2) σ) fun _ _ l σ₁=>refAt "v" ρ fun i=>aIn σ₁ i fun c d es=>oo (lk (nm "items") es) fun v=>vRef v fun j=>aSy σ₁ j fun nn _ l'=>gd (bA (Nat.beq c 304) (bA (sameX (pU w back) l) (bA (sameX (lU w) l') (Nat.ble nn 5)))) (nw σ₁ (.sy 5 (alU w) (rU w back))))
noncomputable def codeF (w : Nat) (a : D) : D:=bI (isFac w) (mapT codeT a) a
noncomputable def kyS (w : Nat) (a : D) : D:=mapT (keyStr w) (codeF w a)
theorem uni_ok : allL (fun w=>bA (sameX (lU w) (lU w)) (bA (sameX (ku w) (ku w)) (allL (fun a=>bA (bA (hasD (codeF w a) (alU w)) (bA (plainD (keyD w false a)) (okD 8 (keyD w false a)))) (allL (fun b=>eqBo (sameD (kyS w b) (kyS w a)) (sameD (keyD w false b) (keyD w false a))) (mnu w))) (mnu w)))) r5 = true:=by kernel_rfl
structure UniV (V : Vx) (w : Nat) : Prop where
  w5 : w < 5
  m0 : ∀ a ∈ V.val 0,a ∈ mnu w
  l0 : (V.val 0).length ≤ 5
section
variable {V : Vx} {w : Nat} (uv : UniV V w) {back : Bool}
include uv
theorem UniV.self : sameX (lU w) (lU w) = true ∧ sameX (ku w) (ku w) = true:=⟨(bA_i (allL_i uni_ok w (mem5 uv.w5))).1,(bA_i (bA_i (allL_i uni_ok w (mem5 uv.w5))).2).1⟩
theorem UniV.at' {a : D} (ha : a ∈ mnu w) : codeF w a ∈ alU w ∧ plainD (keyD w false a) = true ∧ okD 8 (keyD w false a) = true ∧ ∀ b,b ∈ mnu w → sameD (kyS w b) (kyS w a) = sameD (keyD w false b) (keyD w false a):=by
  have h:=bA_i (allL_i (bA_i (bA_i (allL_i uni_ok w (mem5 uv.w5))).2).2 a ha)
  have h1:=bA_i h.1
  exact ⟨hasD_i h1.1,(bA_i h1.2).1,(bA_i h1.2).2,fun b hb=>eqBo_i (allL_i h.2 b hb)⟩
theorem den_ku : den V.val (ku w) = (V.val 0).map (keyD w false):=List.map_congr_left fun a ha=>tabG_at (uv.m0 a ha)
omit uv in
theorem den_lU : den V.val (lU w) = (V.val 0).map (codeF w):=by
  unfold lU codeF
  cases isFac w
  · exact (List.map_id' _).symm
  · rfl
omit uv in
theorem den_rU : den V.val (rU w back) = (den V.val (KP w back (.var 0))).map (codeF w):=by
  unfold rU codeF
  cases isFac w
  · exact (List.map_id' _).symm
  · rfl
theorem den_pU : (den V.val (pU w back)).map (atD (V.val 0)) = den V.val (KP w back (.var 0)) ∧ ∀ a ∈ den V.val (pU w back),∃ k,k < (V.val 0).length ∧ a = .int ((k : Nat) : Int):=by
  have same : ∀ a b,a ∈ mnu w → b ∈ mnu w → sameD (kyS w b) (kyS w a) = sameD (keyD w false b) (keyD w false a):=fun a b ha hb=>(uv.at' ha).2.2.2 b hb
  cases back with
  | false =>
    have hk : den V.val (kU w false) = (V.val 0).map (kyS w):=by
      show (den V.val (lU w)).map (mapT (keyStr w)) = _
      rw [den_lU,List.map_map]
      rfl
    have hp : den V.val (pU w false) = idxMap ((List.range' ([] : List D).length 5).map TTf) (((V.val 0).map (kyS w)).map (plcD ((V.val 0).map (kyS w)))):=by
      show idxMap TSf (sem 1 (den V.val (kU w false)) (den V.val (kU w false))) = _
      rw [hk]
      rfl
    rw [hp]
    refine ⟨?_,fun a ha=>?_⟩
    · rw [firsts_at (f:=kyS w) (all:=V.val 0) uv.l0 (pre:=[]) rfl uv.l0]
      show keepF (([] : List D).map (kyS w)) _ _ = keepF (([] : List D).map (keyD w false)) (den V.val (ku w)) (V.val 0)
      rw [den_ku uv]
      exact keepF_same (M:=(· ∈ mnu w)) same uv.m0 zero
    · obtain ⟨j,h2,e⟩:=idx_places TTf_ok ha
      rw [List.length_map,List.length_map] at h2
      exact ⟨j,Nat.zero_add (V.val 0).length ▸ h2,e⟩
  | true =>
    have hk : den V.val (kU w true) = (V.val 0).reverse.map (kyS w):=by
      show ((den V.val (lU w)).reverse).map (mapT (keyStr w)) = _
      rw [den_lU,← List.map_reverse,List.map_map]
      rfl
    have hp : den V.val (pU w true) = idxMap ((List.range' ([] : List D).length 5).map TT0) (flb (kyS w) (V.val 0)):=by
      show idxMap TS0 (idxMap TSg (sem 1 (den V.val (kU w true)) (den V.val (kU w true)))).reverse = _
      rw [hk,show idxMap TSg (sem 1 ((V.val 0).reverse.map (kyS w)) ((V.val 0).reverse.map (kyS w))) = _ from flags_at (f:=kyS w) (all:=(V.val 0).reverse) ((List.length_reverse ..).symm ▸ uv.l0) (pre:=[]) (suf:=(V.val 0).reverse) (N:=5) rfl ((List.length_reverse ..).symm ▸ uv.l0),flags_rev]
      rfl
    rw [hp]
    refine ⟨?_,fun a ha=>?_⟩
    · rw [lasts_at (f:=kyS w) (all:=V.val 0) (pre:=[]) rfl uv.l0]
      show _ = keepB (den V.val (ku w)) (V.val 0)
      rw [den_ku uv]
      exact keepB_same (M:=(· ∈ mnu w)) same uv.m0
    · obtain ⟨j,h2,e⟩:=idx_places TT0_ok ha
      rw [flb_len] at h2
      exact ⟨j,Nat.zero_add (V.val 0).length ▸ h2,e⟩
omit uv in
theorem KP_sub {X : LX} : (den V.val (KP w back X)).length ≤ (den V.val X).length ∧ ∀ a ∈ den V.val (KP w back X),a ∈ den V.val X:=by
  cases back
  · exact keepF_sub
  · exact keepB_sub
end
theorem e620_shape : e620 = lcOf (nm "place") e620:=by kernel_rfl
theorem x620_shape : pa e620 0 = .Subscript (.Attribute (.Name (nm "v") (pa (pa (pa e620 0) 0) 0).pos) (nm "items") (pa (pa e620 0) 0).pos) (.Name (nm "place") (pa (pa e620 0) 1).pos) (pa e620 0).pos:=by kernel_rfl
theorem aIn_to {γ : Type} {σ : Sto} {i c d : Nat} {es : List (Str × SV)} {f : Nat → Nat → List (Str × SV) → Option γ} (h : σ[i]? = some (.inst c d)) (h' : σ[d]? = some (.di es)) : aIn σ i f = f c d es:=(aO_to h).trans (aO_to h')
theorem F620_s {G : Cx} (ko : KOk3 G) {w : Nat} (uv : UniV G.V w) {back : Bool} : CompOk G 45 (sc96,e620,F620 w back):=fun ρ σ=>.gd fun hcs=>.obSy fun _ _ _ l σ₁ hi=>.refAt fun i hi'=>.aIn fun c d es ho hes=>.oo fun v hv q hq=>(Sat.vRef (P:=fun v r=>lk (nm "items") es = some v → U2 (CoP G 45 sc96 e620 ρ σ) r) fun j=>.aSy fun nn al l' hl=>.gd fun h=>fun r e hj=>Sat.nw (P:=CoP G 45 sc96 e620 ρ σ) (by
  have h2:=bA_i (bA_i h).2
  have h3:=bA_i h2.2
  rw [← sameX_eq _ _ h2.1] at hi
  rw [← sameX_eq _ _ h3.1] at hl
  rw [Nat.eq_of_beq_eq_true (bA_i h).1] at ho
  have hd:=den_pU uv (back:=back)
  have at' : ∀ {k},k < (G.V.val 0).length → ∃ a,(G.V.val 0)[k]? = some a ∧ a ∈ mnu w ∧ atD (G.V.val 0) (.int (k : Int)) = a:=fun {k} hk=>⟨(G.V.val 0)[k],List.getElem?_eq_getElem hk,uv.m0 _ (List.getElem_mem hk),congrArg (Option.getD · D.none) (List.getElem?_eq_getElem hk)⟩
  rw [e620_shape]
  refine (comp_list ko (tab0 G) (by decide) hcs hi (y:=fun a=>some (codeF w (atD (G.V.val 0) a))) (fun re a ha hal=>StepT.ev ?_) fun re M=>⟨?_,fun a ha=>?_,?_⟩).co
  · obtain ⟨k,hk,rfl⟩:=hd.2 a ha
    obtain ⟨a,e1,e2,e3⟩:=at' hk
    have hb2 : (den G.V.val (lU w))[k]? = some (codeF w a):=by rw [den_lU,List.getElem?_map,e1]; rfl
    rw [e3,x620_shape]
    refine EvT.sub (factAt hb2) (EvT.attr ko.attr (by kernel_rfl) (EvT.var ko.toKOk (v:=.ref i) (by kernel_rfl) hi') ((aIn_to ho hes).trans ?_)) (EvT.var ko.toKOk (by kernel_rfl) rfl) ((sub_at hl (Nat.lt_of_lt_of_le hk (Nat.le_trans uv.l0 (by decide)))).trans ?_)
    · show gd (inS (nm "items") (attrsOf 304)) (lk (nm "items") es) = some (.ref j)
      rw [hj]
      kernel_rfl
    · show om (atX (lU w) k [(lU w,k,codeF w a)]) SV.d = _
      rw [atX_self uv.self.1]
      rfl
  · rw [den_rU,← hd.1,List.map_map]
    exact (congrFun (List.filterMap_eq_map' (f:=fun a=>codeF w (atD (G.V.val 0) a))) _).symm
  · obtain ⟨b,hb,e⟩:=List.mem_filterMap.mp ha
    obtain ⟨k,hk,rfl⟩:=hd.2 b hb
    obtain ⟨a,_,e2,e3⟩:=at' hk
    rw [e3] at e
    exact Option.some.inj e ▸ (uv.at' e2).1
  · refine Nat.le_trans (List.length_filterMap_le ..) (Nat.le_trans (Nat.le_of_eq ?_) (Nat.le_trans (KP_sub (V:=G.V) (w:=w) (back:=back) (X:=.var 0)).1 uv.l0))
    rw [← hd.1,List.length_map]) e).mono (fun _ z=>z hv) hq
noncomputable def sc149 : Scope:=scOf (stN 149)
noncomputable def b149 (i : Nat) : Stmt:=stAt (bodyOf (stN 149)) i
noncomputable def s975 : Stmt:=b149 3
noncomputable def a975 : Stmt:=stAt (sb s975 0) 0
noncomputable def i975 : Stmt:=stAt (sb s975 0) 1
noncomputable def v975 : Expr:=sa a975 0
noncomputable def A975 : Expr:=pa v975 1
noncomputable def B975 : Expr:=pa v975 2
noncomputable def T975 : Expr:=sa i975 0
noncomputable def C975 : Expr:=sa (stAt (sb i975 0) 0) 0
theorem s975_shape : s975 = .For (.Name (nm "at") (sa s975 0).pos) (sa s975 1) (sb s975 0) [] s975.pos:=by kernel_rfl
theorem b975_shape : sb s975 0 = [.Assign [.Name (nm "rest") (sa a975 1).pos] (.IfExp (pa v975 0) (.Subscript (.Name (nm "keys") (pa A975 0).pos) (.Slice (some (.BinOp (.Name (nm "at") (pa (pa (pa A975 1) 0) 0).pos) .Add (pa (pa (pa A975 1) 0) 1) (pa (pa A975 1) 0).pos)) none none (pa A975 1).pos) A975.pos)
      (.Subscript (.Name (nm "keys") (pa B975 0).pos) (.Slice none (some (.Name (nm "at") (pa (pa B975 1) 0).pos)) none (pa B975 1).pos) B975.pos) v975.pos) a975.pos,
    .If (.Compare (.Subscript (.Name (nm "keys") (pa (pa T975 0) 0).pos) (.Name (nm "at") (pa (pa T975 0) 1).pos) (pa T975 0).pos) [.NotIn] [.Name (nm "rest") (pa T975 1).pos] T975.pos)
      [.Expr (.Call (.Attribute (.Name (nm "kept") (pa (pa C975 0) 0).pos) (nm "append") (pa C975 0).pos) [.Subscript (.Name (nm "items") (pa (pa C975 1) 0).pos) (.Name (nm "at") (pa (pa C975 1) 1).pos) (pa C975 1).pos] [] C975.pos) (stAt (sb i975 0) 0).pos] [] i975.pos]:=by kernel_rfl
theorem one975 (ρ : Rho) (σ : Sto) : (runF 40 T0).ev sc149 (pa (pa (pa A975 1) 0) 1) ρ σ = some (.d (.int 1),σ):=by kernel_rfl
theorem var975 : varB sc149 (nm "at") = true ∧ varB sc149 (nm "rest") = true ∧ varB sc149 (nm "keys") = true ∧ varB sc149 (nm "items") = true ∧ varB sc149 (nm "kept") = true:=⟨by kernel_rfl,by kernel_rfl,by kernel_rfl,by kernel_rfl,by kernel_rfl⟩
noncomputable def isTst (b : Bool) (σ : Sto) (r : Option (Bool × Sto)) : Bool:=optT (fun r=>bA (eqBo b r.1) (sto2 σ r.2)) r
theorem isTst_i {b : Bool} {σ : Sto} {r : Option (Bool × Sto)} (h : isTst b σ r = true) : r = some (b,σ):=by
  obtain ⟨⟨c,s⟩,e,h⟩:=optT_i h
  rw [e,eqBo_i (bA_i h).1,sto2_i (bA_i h).2]
noncomputable def okSV (N : Nat) (v : SV) : Bool:=@SV.casesOn (fun _=>Bool) v (fun _=>true) (fun i=>Nat.blt i N) (fun _=>false) (fun _=>true) (fun _=>true) fun _=>true
noncomputable def okRho (N : Nat) (ρ : Rho) : Bool:=allL (fun p=>okSV N p.2) ρ
theorem okRho_at {N : Nat} {ρ : Rho} (h : okRho N ρ = true) {x : Str} {sv : SV} (e : lk x ρ = some sv) : okSV N sv = true:=allL_i h _ (lk_mem e)
section
variable {G : Cx} {c : Ct} {env : Env} {sc : Scope} {m cm m' cm' : Str → Option Value} {cs cs' rest : Led} {W W₂ : Wd} {ρ ρ' ρ'' : Rho} {σ σ₂ τ : Sto} {h h₂ : Heap} {n : Nat} {l : List Stmt}
theorem relV_take {N : Nat} {sv : SV} {v : Value} (ok : okSV N sv = true) (r : RelV W₂.kn sv v) : RelV (Wd.kn ⟨W₂.led.take N,W₂.tps⟩) sv v:=by
  cases sv with
  | ref i =>
    obtain ⟨a,ha,e⟩:=r
    have ha : (W₂.led.map (·.1))[i]? = some a:=ha
    refine ⟨a,?_,e⟩
    show ((W₂.led.take N).map (·.1))[i]? = some a
    rw [List.map_take,List.getElem?_take_of_lt (Nat.blt_eq.mp ok),ha]
  | tup xs=>exact nT ok
  | _=>exact r
theorem Fs.firsts (X₂ : Fs G c env sc m' cm' cs' rest W₂ ρ' σ₂ h₂) (Y₃ : Fy G (c.set m' (cs' ++ rest)) ⟨W₂.led.take τ.length,W₂.tps⟩ τ h₂) (hρ : ∀ {x sv},lk x ρ' = some sv → okSV τ.length sv = true) : Fs G c env sc m' cm' cs' rest ⟨W₂.led.take τ.length,W₂.tps⟩ ρ' τ h₂ :=
  ⟨⟨Y₃,X₂.L,X₂.E,X₂.C,fun x sv e=>⟨fun q=>let ⟨v,e1,r⟩:=(X₂.V x sv e).1 q; ⟨v,e1,relV_take (hρ e) r⟩,fun q=>let ⟨v,e1,e2,r⟩:=(X₂.V x sv e).2 q; ⟨v,e1,e2,relV_take (hρ e) r⟩⟩⟩,X₂.own,X₂.ndn,X₂.ndc,X₂.off,X₂.keptR,X₂.has⟩
theorem ExT.firsts (h : ExT G n sc l ρ σ .next ρ' σ₂) (w : SubR ρ'' ρ') (tu : Tu σ τ) (ht : σ₂.take τ.length = τ) (hρ : ∀ {x sv},lk x ρ'' = some sv → okSV τ.length sv = true) : ExT G n sc l ρ σ .next ρ'' τ:=fun c env m cm cs rest W E Q s hA X k=>h hA X fun m' cm' cs' h' tk W' fl X' mo fr =>
  have q:=X.Y.first X'.Y mo tu ht
  k (Fs.firsts (X'.weakR w) q.1 hρ) q.2 fr
end
section
variable {G : Cx} {n : Nat} {sc : Scope} {ρ : Rho} {σ σ₁ : Sto} {v : SV}
theorem StT.assignN {e : Expr} {x : Str} {p pos : Pos} (hc : isComp e = false) (hx : isVar sc x = true) (h : EvT G n sc e ρ σ v σ₁) : StT G n sc (.Assign [.Name x p] e pos) ρ σ .next (put x v ρ) σ₁:=StT.assign1 h (.name hx) fun env=>(exprS e).swap hc _ _ env
theorem get_app {i : Nat} {o : SO} {l : Sto} (h : σ[i]? = some o) : (σ ++ l)[i]? = some o:=(List.getElem?_append_left (List.getElem?_eq_some_iff.mp h).1).trans h
end
theorem hasD_plc {x : D} (l : List D) : ∀ n,hasD x l = (plcN x l n).isSome:=by
  induction l with
  | nil=>exact fun _=>rfl
  | cons y r ih =>
    intro n
    show bI (sameD y x) true (hasD x r) = (bI (sameD y x) (some n) (plcN x r (n + 1))).isSome
    rw [ih (n + 1)]
    cases sameD y x <;> rfl
noncomputable def RL (w : Nat) (back : Bool) (k : Nat) : LX:=bI back (.drop (k + 1) (ku w)) (.take k (ku w))
noncomputable def stX (w : Nat) (back : Bool) (k : Nat) : SO:=.sy 6 (mnu w) (KP w back (.take k (.var 0)))
theorem stX_next {V : Vx} {w : Nat} {back : Bool} {k : Nat} {x y : D} (hx : (V.val 0)[k]? = some x) (hy : (den V.val (ku w))[k]? = some y) : den V.val (KP w back (.take (k + 1) (.var 0))) = den V.val (KP w back (.take k (.var 0))) ++ bI (hasD y (den V.val (RL w back k))) [] [x]:=by
  cases back
  · exact keepF_take (seen:=[]) hx hy
  · exact keepB_take hx hy
structure OkU (G : Cx) (w : Nat) (ρ : Rho) (σ : Sto) (a b c m n : Nat) (be al : List D) : Prop where
  ka : lk (nm "keys") ρ = some (.ref a)
  kb : lk (nm "items") ρ = some (.ref b)
  kc : lk (nm "kept") ρ = some (.ref c)
  n1 : (lk (nm "at") ρ).isNone = true
  n2 : (lk (nm "rest") ρ).isNone = true
  oa : σ[a]? = some (.sy m be (ku w))
  ob : σ[b]? = some (.sy n al (.var 0))
  hm : m ≤ 1000
  ok : okAll (okD 8) be = true
  hρ : okRho σ.length ρ = true
theorem cut_at {m k : Nat} {be : List D} {l : LX} (hm : m ≤ 1000) (hk : k < 5) : cutO (some ((k : Int) + 1)) none (.sy m be l) = some (.sy m be (.drop (k + 1) l)) ∧ cutO none (some (k : Int)) (.sy m be l) = some (.sy m be (.take k l)):=⟨if_pos ⟨by omega,by omega,hm⟩,if_pos ⟨by omega,by omega,hm⟩⟩
theorem turn975 {G : Cx} (ko : KOk3 G) {w : Nat} (uv : UniV G.V w) {back : Bool} {ρ : Rho} {σ : Sto} {a b c m n k : Nat} {be al : List D} (U : OkU G w ρ σ a b c m n be al) (oc : σ[c]? = some (stX w back k)) (hk : k < (G.V.val 0).length) (ht : (runF 80 T0).tst sc149 (pa v975 0) (put (nm "at") (.d (.int (k : Int))) ρ) σ = some (back,σ)) : ExT G 90 sc149 (sb s975 0) (put (nm "at") (.d (.int (k : Int))) ρ) σ .next ρ (σ.set c (stX w back (k + 1))):=by
  obtain ⟨va,vr,vk,vi,vp⟩:=var975
  have k5 : k < 5:=Nat.lt_of_lt_of_le hk uv.l0
  have hx : (G.V.val 0)[k]? = some ((G.V.val 0)[k]):=List.getElem?_eq_getElem hk
  have hxm:=uv.m0 _ (List.getElem_mem hk)
  generalize (G.V.val 0)[k] = x at hx hxm
  have hy : (den G.V.val (ku w))[k]? = some (keyD w false x):=by rw [den_ku uv,List.getElem?_map,hx]; rfl
  obtain ⟨_,pl,pok,_⟩:=uv.at' hxm
  have hcl:=(List.getElem?_eq_some_iff.mp oc).1
  have vk0 : ∀ p,EvT G 90 sc149 (.Name (nm "keys") p) (put (nm "at") (.d (.int (k : Int))) ρ) σ (.ref a) σ:=fun p=>EvT.var ko.toKOk vk ((lk_puto (by kernel_rfl)).trans U.ka)
  have va0 : ∀ p,EvT G 90 sc149 (.Name (nm "at") p) (put (nm "at") (.d (.int (k : Int))) ρ) σ (.d (.int (k : Int))) σ:=fun p=>EvT.var ko.toKOk va lk_putv
  have old : ∀ {y : Str} {v : SV},seq (nm "rest") y = false → lk y (put (nm "at") (.d (.int (k : Int))) ρ) = some v → lk y (put (nm "rest") (.ref σ.length) (put (nm "at") (.d (.int (k : Int))) ρ)) = some v:=fun h1 h2=>(lk_puto h1).trans h2
  have va1 : ∀ p,EvT G 90 sc149 (.Name (nm "at") p) (put (nm "rest") (.ref σ.length) (put (nm "at") (.d (.int (k : Int))) ρ)) (σ ++ [.sy m be (RL w back k)]) (.d (.int (k : Int))) (σ ++ [.sy m be (RL w back k)]):=fun p=>EvT.var ko.toKOk va (old (by kernel_rfl) lk_putv)
  have on : (σ ++ [SO.sy m be (RL w back k)])[σ.length]? = some (.sy m be (RL w back k)):=List.getElem?_concat_length
  have hpl : ∀ y ∈ den G.V.val (RL w back k),plainD y = true:=fun y hy=>by
    have : y ∈ den G.V.val (ku w):=by cases back <;> first | exact List.mem_of_mem_take hy | exact List.mem_of_mem_drop hy
    rw [den_ku uv] at this
    obtain ⟨z,hz,rfl⟩:=List.mem_map.mp this
    exact (uv.at' (uv.m0 z hz)).2.1
  have rs : sameX (RL w back k) (RL w back k) = true:=by cases back <;> exact bA_to (Nat.beq_refl _) uv.self.2
  have oc1 : (σ ++ [SO.sy m be (RL w back k)])[c]? = some (stX w back k):=get_app oc
  have hn:=stX_next (back:=back) hx hy
  have keep : ∀ z ∈ den G.V.val (KP w back (.take (k + 1) (.var 0))),z ∈ mnu w:=fun z hz=>uv.m0 z (List.mem_of_mem_take (KP_sub.2 z hz))
  have long : (den G.V.val (KP w back (.take (k + 1) (.var 0)))).length ≤ 6:=Nat.le_trans KP_sub.1 (Nat.le_trans (List.length_take_le' ..) (Nat.le_trans uv.l0 (by decide)))
  rw [b975_shape]
  refine ExT.firsts (ρ':=put (nm "rest") (.ref σ.length) (put (nm "at") (.d (.int (k : Int))) ρ)) (σ₂:=(σ ++ [SO.sy m be (RL w back k)]).set c (stX w back (k + 1))) (.next (ρ₁:=put (nm "rest") (.ref σ.length) (put (nm "at") (.d (.int (k : Int))) ρ)) (σ₁:=σ ++ [SO.sy m be (RL w back k)]) (StT.assignN rfl (by kernel_rfl) (EvT.ite (z:=back) (TstT.le (TstT.run ko (tab0 G) ht) (by decide)) ?_)) (.last ?_)) (fun y sv e=>?_) ?_ ?_ fun {y sv} e=>?_
  · cases back with
    | true=>exact EvT.slice (vk0 _) (.some (EvT.bin (va0 _) (EvT.le (EvT.run ko (tab0 G) (one975 _ _)) (by decide)) (BinT.run (op:=.Add) rfl))) .none .none (SlT.told U.oa .refl (cut_at U.hm k5).1)
    | false=>exact EvT.slice (vk0 _) .none (.some (va0 _)) .none (SlT.told U.oa .refl (cut_at U.hm k5).2)
  · have tst:=(EvT.cmp (op:=.NotIn) (pos:=T975.pos) (z:=!(hasD (keyD w false x) (den G.V.val (RL w back k)))) (factIdx (idx_ok pl hpl)) (by kernel_rfl) (EvT.sub (p:=(pa T975 0).pos) (factAt (V:=G.V) hy) (EvT.var ko.toKOk (p:=(pa (pa T975 0) 0).pos) vk (old (by kernel_rfl) ((lk_puto (by kernel_rfl)).trans U.ka))) (va1 (pa (pa T975 0) 1).pos) ((sub_at (get_app U.oa) (Nat.lt_trans k5 (by decide))).trans (show om (atX (ku w) k [(ku w,k,keyD w false x)]) SV.d = some (.d (keyD w false x)) by rw [atX_self uv.self.2]; rfl)))
      (EvT.var ko.toKOk (x:=nm "rest") (p:=(pa T975 1).pos) vr lk_putv) (by
        refine (congrArg (fun z=>om z fun b=>!b) (aO_to on)).trans ?_
        show om (gd (okAll (okD 8) be) (gd (okD 8 (keyD w false x)) (om (idxX (RL w back k) (keyD w false x) [(RL w back k,keyD w false x,plcN (keyD w false x) (den G.V.val (RL w back k)) 0)]) fun q=>q.isSome))) (fun b=>!b) = _
        rw [U.ok,pok,idxX_self rs,hasD_plc _ 0]
        rfl)).2
    refine StT.ite tst ?_
    cases q : hasD (keyD w false x) (den G.V.val (RL w back k)) with
    | true =>
      rw [q] at hn
      refine ExT.post .nil .refl ?_
      have t:=conv_set oc1 (o':=stX w back (k + 1)) (.sy (hn.trans (List.append_nil _)) (fun _ z hz=>keep z (hn.trans (List.append_nil _) ▸ hz)) fun h=>h)
      exact t
    | false =>
      rw [q] at hn
      refine ExT.post (.last (StT.expr rfl (EvT.methB ko.toKOk (F:=F0) (me:=.append) (FactsOk.nil G.V []) (by kernel_rfl) (by kernel_rfl) (Nat.le_of_ble_eq_true rfl) (EvT.var ko.toKOk (v:=.ref c) vp (old (by kernel_rfl) ((lk_puto (by kernel_rfl)).trans U.kc))) (.cons (by kernel_rfl) (EvT.sub (factAt (V:=G.V) (l:=.var 0) hx) (EvT.var ko.toKOk vi (old (by kernel_rfl) ((lk_puto (by kernel_rfl)).trans U.kb))) (va1 _) ((sub_at (get_app U.ob) (Nat.lt_trans k5 (by decide))).trans (atO_self (V:=G.V)))) .nil) ((aO_to oc1).trans (by kernel_rfl)) rfl ((aO_to oc1).trans rfl)))) .refl ?_
      rw [K.lset_eq]
      exact All2.set (.sy hn (fun _ z hz=>keep z (hn ▸ hz)) fun _=>Nat.le_trans (Nat.le_of_eq (congrArg List.length hn.symm)) long) Conv.refl
  · have e1 : lk y (put (nm "at") (.d (.int (k : Int))) ρ) = some sv:=SubR.put_new U.n1 y sv e
    exact SubR.put_new (by rw [lk_puto (by kernel_rfl)]; exact U.n2) y sv e1
  · have t : Tu (σ.set c (stX w back k)) (σ.set c (stX w back (k + 1))):=All2.set (.inr rfl) Tu.refl
    rw [set_self oc] at t
    exact t
  · rw [List.length_set,List.set_append_left _ _ hcl]
    exact List.take_left' (List.length_set ..)
  · rw [List.length_set]
    exact okRho_at U.hρ e
noncomputable def F975 (w : Nat) (back : Bool) : FL:=fun ρ σ=>obOv (overOf (runF 40 T0) sc149 ρ (sa s975 1) σ) fun m _ l σ₁=>refAt "keys" ρ fun a=>refAt "items" ρ fun b=>refAt "kept" ρ fun c=>aSy σ₁ a fun m' be' l'=>aSy σ₁ b fun _ _ lx=>aDl σ₁ c fun es=>l0 es (gd (bA (bA (okRho σ₁.length ρ) (bA (lk (nm "at") ρ).isNone (lk (nm "rest") ρ).isNone))
  (bA (bA (Nat.ble m 5) (Nat.ble m' 5)) (bA (bA (sameX (ku w) l) (bA (sameX (ku w) l') (sameX (.var 0) lx))) (bA (okAll (okD 8) be') (allN (fun k=>isTst back (K.lset σ₁ c (stX w back k)) ((runF 80 T0).tst sc149 (pa v975 0) (put (nm "at") (.d (.int (k : Int))) ρ) (K.lset σ₁ c (stX w back k)))) 5)))))
  (some (.next,ρ,K.lset σ₁ c (.sy 5 (mnu w) (KP w back (.var 0))))))
theorem sy_ne {σ : Sto} {i c n : Nat} {al : List D} {l : LX} (e : σ[i]? = some (SO.sy n al l)) (oc : σ[c]? = some (SO.dl [])) : i ≠ c:=fun q=>by
  rw [q,oc] at e
  exact nomatch Option.some.inj e
theorem F975_s {G : Cx} (ko : KOk3 G) {w : Nat} (uv : UniV G.V w) {back : Bool} : LoopOk G 90 (sc149,s975,F975 w back):=fun ρ σ=>by
  show Sat (F975 w back ρ σ) _
  unfold F975
  refine .obOv fun m be l σ₁ hi=>.refAt fun a ka=>.refAt fun b kb=>.refAt fun c kc=>.aSy fun m' be' l' oa=>.aSy fun n al lx ob=>.aDl fun es oc=>?_
  cases es with
  | cons _ _=>exact .no
  | nil =>
  refine .gd fun h=>.yes ?_
  have h1:=bA_i (bA_i h).1
  have h2:=bA_i (bA_i h).2
  have h3:=bA_i h2.2
  have h4:=bA_i h3.2
  have hl:=sameX_eq _ _ (bA_i h3.1).1
  have hx:=bA_i (bA_i h3.1).2
  rw [← hl] at hi
  rw [← sameX_eq _ _ hx.1] at oa
  rw [← sameX_eq _ _ hx.2] at ob
  have len : (den G.V.val (ku w)).length = (G.V.val 0).length:=by rw [den_ku uv,List.length_map]
  show StT G 90 sc149 s975 ρ σ .next ρ (K.lset _ _ _)
  rw [s975_shape,K.lset_eq]
  refine StT.conv (loop_over ko (tab0 G) (by decide) (by kernel_rfl) hi (σa:=σ₁.set c (stX w back 0)) (σ':=σ₁.set c (stX w back (G.V.val 0).length)) (conv_set oc fun _ _ r=>LsR.mono r fun vs r=>?_) fun re M=>?_) (All2.set (.sy ?_ (fun hm=>hm) fun _=>?_) Conv.refl)
  · have e : den G.V.val (KP w back (.take 0 (.var 0))) = []:=List.eq_nil_of_length_eq_zero (Nat.le_zero.mp KP_sub.1)
    unfold SyR
    rw [e]
    exact ⟨zero,Nat.zero_le _,r⟩
  · rw [len]
    have T:=turns_next (G:=G) (n:=90) (sc:=sc149) (ρ:=ρ) (x:=nm "at") (body:=sb s975 0) (σs:=fun k=>σ₁.set c (stX w back k)) (k:=0) (N:=(G.V.val 0).length) fun k hk=>?_
    · rw [Nat.zero_add] at T
      exact T
    · rw [Nat.zero_add] at hk
      have t:=isTst_i (allN_i h4.2 k (Nat.lt_of_lt_of_le hk uv.l0))
      rw [K.lset_eq] at t
      have r:=turn975 ko uv ⟨ka,kb,kc,(bA_i h1.2).1,(bA_i h1.2).2,(List.getElem?_set_ne (Ne.symm (sy_ne oa oc))).trans oa,(List.getElem?_set_ne (Ne.symm (sy_ne ob oc))).trans ob,Nat.le_trans (Nat.le_of_ble_eq_true (bA_i h2.1).2) (by decide),h4.1,(List.length_set ..).symm ▸ h1.1⟩ (List.getElem?_set_self (List.getElem?_eq_some_iff.mp oc).1) hk t
      rw [List.set_set] at r
      exact r
  · show sem (bI back 3 2) _ _ = sem (bI back 3 2) _ ((G.V.val 0).take _)
    rw [List.take_length]
  · show (den G.V.val (KP w back _)).length ≤ 5
    exact Nat.le_trans KP_sub.1 (Nat.le_trans (List.length_take_le' ..) uv.l0)
noncomputable def backOf (b : Nat) : Bool:=Nat.beq b 1
noncomputable def TUi (w : Nat) (back : Bool) : Tab:=tabOf 90 F0 [(545,true,memo tkUniq),(858,false,memo flags)] [(sc96,e620,F620 w back)] [(sc116,s779,F779)]
noncomputable def TU (w b : Nat) : Tab:=tabOf 151 F0 [(904,false,Fdraw [(43,3,(b : Int),44)]),(935,false,F935c (TUi w (backOf b)))] [] [(sc149,s975,F975 w (backOf b))]
noncomputable def stU (w : Nat) (nmf : Bool) (q : Nat) : Sto:=K.app (uS w nmf 0 0) [.sy 5 (mnu w) (.var 0),.bd q]
noncomputable def memoU (w : Nat) (nmf : Bool) (s : Int) : Memo:=⟨[.ref 0,.d (srt w),.ref (uLen (isFac w) nmf),.ref (uLen (isFac w) nmf + 1),.d (.int s)],stU w nmf 43,.d (.bool true),stU w nmf 44⟩
noncomputable def uB (w : Nat) (s : Int) : Bool:=allN (fun b=>allL (fun n=>chkFn 200 966 (TU w b) (memoU w n s)) [false,true]) 3
theorem kU0 (s : Int) : uB 0 s = true:=by kernel_rfl
theorem kU1 (s : Int) : uB 1 s = true:=by kernel_rfl
theorem kU2 (s : Int) : uB 2 s = true:=by kernel_rfl
theorem kU3 (s : Int) : uB 3 s = true:=by kernel_rfl
theorem kU4 (s : Int) : uB 4 s = true:=by kernel_rfl
theorem mem_b (b : Bool) : b ∈ [false,true]:=by cases b <;> first | exact .head _ | exact .tail _ (.head _)
theorem unique_ok {G : Cx} (ko : KOk3 G) {w b : Nat} (hb : b < 3) (nmf : Bool) (uv : UniV G.V w) (d : DrawOk G.V (43,3,(b : Int),44)) (s : Int) : FnT G 200 966 (memoU w nmf s).args (stU w nmf 43) (.d (.bool true)) (stU w nmf 44):=by
  have ti : TabOk G (TUi w (backOf b)):=tabOf_ok (FactsOk.nil G.V []) (two (take_ok ko (by decide) tkUniq_k) (two (.open (FnOk.le (memo_ok fun e he=>chkFn_ok ko (tab0 G) (allL_i flags_k e he)) (by decide))) zero)) (two (fun ρ σ=>(F620_s ko uv ρ σ).mono fun _ h=>CoP.le h (by decide)) zero) (two (fun ρ σ=>(F779_s ko ρ σ).mono fun _ h=>StT.le h (by decide)) zero)
  have T : TabOk G (TU w b):=tabOf_ok (FactsOk.nil G.V []) (two (.open (FnOk.le (Fdraw_ok ko (two d zero)) (by decide))) (two (.open (F935c_s ko ti)) zero)) zero (two (fun ρ σ=>(F975_s ko uv ρ σ).mono fun _ h=>StT.le h (by decide)) zero)
  have h : ∀ w ∈ r5,∀ s,uB w s = true:=two kU0 (two kU1 (two kU2 (two kU3 (two kU4 zero))))
  exact chkFn_ok ko T (allL_i (allN_i (h w (mem5 uv.w5) s) b hb) nmf (mem_b nmf))
noncomputable def sc127 : Scope:=scOf (stN 127)
noncomputable def b127 (i : Nat) : Stmt:=stAt (bodyOf (stN 127)) i
noncomputable def s835 : Stmt:=b127 2
noncomputable def s838 : Stmt:=b127 3
noncomputable def lackD (a : D) : Bool:=bI (sameD a .none) true (sameD a (tD 0 0))
noncomputable def thT (w : Nat) : List (D × Option D):=(mnu w).map fun a=>(a,bI (lackD a) none (some a))
noncomputable def alTh (w : Nat) : List D:=(mnu w).filter fun a=>!lackD a
noncomputable def thX (w : Nat) : LX:=.tab (thT w) (.var 0)
noncomputable def heiT : List (D × Option D):=[(tD 0 1,some (.int 0)),(tD 1 2,some (.int 1)),(tD 1 1,some (.int 2)),(tD 2 1,some (.int 3)),(tD 1 0,some (.int 4)),(sD "0",some (.int 0)),(sD "0.5",some (.int 1)),(sD "1",some (.int 2)),(sD "TRUE",some (.int 3)),(sD "b",some (.int 4))]
noncomputable def heiD (a : D) : D:=(oe (tabD heiT a) (some a)).getD .none
noncomputable def iD (a : D) : Int:=@D.casesOn (fun _=>Int) a 0 (fun _=>0) (fun i=>i) (fun _=>0) fun _=>0
noncomputable def hI (a : D) : Int:=iD (heiD a)
noncomputable def badI (st : Bool) (x y : Int) : Bool:=bI (decide (y < x)) true (bA st (decide (x = y)))
noncomputable def alV (w : Nat) (o : Bool) : List D:=bI o (alTh w) (mnu w)
noncomputable def lV (w : Nat) (o : Bool) : LX:=bI o (thX w) (.var 0)
noncomputable def unSt (w : Nat) (nmf o : Bool) : Sto:=bI o (vecO 0 (srt w) (.sy 5 (alTh w) (thX w)) (.d .none)) (uS w nmf 0 0)
noncomputable def outOf (b : Bool) (v : D) : Out:=bI b (.ret (.d v)) .next
noncomputable def sameOut (b : Bool) (v : D) (o : Out) : Bool:=@Out.casesOn (fun _=>Bool) o (!b) false false fun w=>bA b (sameV (.d v) w)
theorem sameOut_i {b : Bool} {v : D} {o : Out} (h : sameOut b v o = true) : o = outOf b v:=by
  cases o with
  | ret w =>
    obtain ⟨h1,h2⟩:=bA_i (x:=b) (y:=sameV (.d v) w) h
    cases h1
    exact congrArg Out.ret (sameV_eq _ _ h2).symm
  | next=>cases b with
    | false=>rfl
    | true=>exact nT h
  | _=>exact nT h
noncomputable def subB (ρ ρ' : Rho) : Bool:=allL (fun p=>optT (sameV p.2) (lk p.1 ρ')) ρ
theorem subB_i {ρ ρ' : Rho} (h : subB ρ ρ' = true) : SubR ρ ρ':=fun x sv e=>by
  obtain ⟨w,h1,h2⟩:=optT_i (allL_i h _ (lk_mem e))
  exact (show sv = w from sameV_eq _ _ h2) ▸ h1
noncomputable def isOut (b : Bool) (v : D) (ρ : Rho) (σ : Sto) (r : Option (Out × Rho × Sto)) : Bool:=optT (fun r=>bA (sameOut b v r.1) (bA (subB ρ r.2.1) (sto2 σ r.2.2))) r
noncomputable def isRng (lo : Int) (k : Nat) (σ : Sto) (r : Option (Src × Sto)) : Bool:=optT (fun q=>bA (sto2 σ q.2) (@Src.casesOn (fun _=>Bool) q.1 (fun l n=>bA (decide (l = lo)) (Nat.beq n k)) (fun _ _ _=>false) fun _ _ _ _=>false)) r
theorem isRng_i {lo : Int} {k : Nat} {σ : Sto} {r : Option (Src × Sto)} (h : isRng lo k σ r = true) : r = some (.range lo k,σ):=by
  obtain ⟨⟨q,s⟩,e,h⟩:=optT_i h
  obtain ⟨h1,h2⟩:=bA_i h
  cases sto2_i h1
  cases q with
  | range l n=>rw [e,of_decide_eq_true (bA_i h2).1,Nat.eq_of_beq_eq_true (bA_i h2).2]
  | _=>exact nT h2
noncomputable def isSyL (l : LX) (σ : Sto) (r : Option (Src × Sto)) : Bool:=optT (fun q=>bA (sto2 σ q.2) (@Src.casesOn (fun _=>Bool) q.1 (fun _ _=>false) (fun _ _ _=>false) fun _ _ _ l'=>sameX l l')) r
theorem isSyL_i {l : LX} {σ : Sto} {r : Option (Src × Sto)} (h : isSyL l σ r = true) : ∃ i n al,r = some (.sy i n al l,σ):=by
  obtain ⟨⟨q,s⟩,e,h⟩:=optT_i h
  obtain ⟨h1,h2⟩:=bA_i h
  cases sto2_i h1
  cases q with
  | sy i n al l'=>exact ⟨i,n,al,by rw [e,sameX_eq _ _ h2]⟩
  | _=>exact nT h2
noncomputable def len1 (l : LX) (k : Nat) : Tab:=TF { F0 with lens:=[(l,k)] }
noncomputable def at2 (l : LX) (k : Nat) (a b : D) : Tab:=TF { F0 with ats:=[(l,k,a),(l,k + 1,b)] }
theorem b127_shape : bodyOf (stN 127) = [b127 0,.If (sa (b127 1) 0) (sb (b127 1) 0) [] (b127 1).pos,.For (.Name (nm "item") (sa s835 0).pos) (sa s835 1) (sb s835 0) [] s835.pos,.For (.Name (nm "place") (sa s838 0).pos) (sa s838 1) (sb s838 0) [] s838.pos,b127 4]:=by kernel_rfl
noncomputable def chk844 (w : Nat) (nmf o st : Bool) : Bool:=optT (fun ρ=>bA (isOut false .none ρ (unSt w nmf o) (exS (runF 60 T0) sc127 (b127 0) ρ (unSt w nmf o)))
  (bA (allN (fun k=>isTst (Nat.blt k 2) (unSt w nmf o) ((runF 60 (len1 (lV w o) k)).tst sc127 (sa (b127 1) 0) ρ (unSt w nmf o))) 6)
  (bA (isOut true (.int 0) ρ (unSt w nmf o) ((runF 60 T0).ex sc127 (sb (b127 1) 0) ρ (unSt w nmf o)))
  (bA (isSyL (lV w o) (unSt w nmf o) (iterOf (runF 60 T0) sc127 ρ (sa s835 1) (unSt w nmf o)))
  (bA (allL (fun a=>isOut (lackD a) .none ρ (unSt w nmf o) ((runF 60 T0).ex sc127 (sb s835 0) (put (nm "item") (.d a) ρ) (unSt w nmf o))) (alV w o))
  (bA (allN (fun k=>isRng 1 (k + 1) (unSt w nmf o) (iterOf (runF 60 (len1 (lV w o) (k + 2))) sc127 ρ (sa s838 1) (unSt w nmf o))) 4)
  (bA (allL (fun a=>allL (fun b=>allN (fun k=>isOut (badI st (hI a) (hI b)) (.int 1) ρ (unSt w nmf o) ((runF 60 (at2 (lV w o) k a b)).ex sc127 (sb s838 0) (put (nm "place") (.d (.int ((k + 1 : Nat) : Int))) ρ) (unSt w nmf o))) 4) (alTh w)) (alTh w))
  (bA (isOut true (.int 0) ρ (unSt w nmf o) (exS (runF 60 T0) sc127 (b127 4) ρ (unSt w nmf o)))
    (allL (fun r=>isRes ⟨[],[],.d r,unSt w nmf o⟩ (gc (K.len (unSt w nmf o)) (.d r) (unSt w nmf o))) [.none,.int 0,.int 1])))))))))
  (bindA [.d (.bool false)] (K.lmap (·.arg) (psOf (stN 127)).args) [.ref 0,.d (.bool st)])
noncomputable def k844 (w : Nat) : Bool:=allL (fun st=>bA (chk844 w false false st) (bA (chk844 w true false st) (chk844 w false true st))) [false,true]
theorem k844_0 : k844 0 = true:=by kernel_rfl
theorem k844_1 : k844 1 = true:=by kernel_rfl
theorem k844_2 : k844 2 = true:=by kernel_rfl
theorem k844_3 : k844 3 = true:=by kernel_rfl
theorem k844_at {w : Nat} (hw : w < 4) (nmf o st : Bool) : chk844 w nmf o st = true:=by
  have h : ∀ w ∈ [0,1,2,3],k844 w = true:=two k844_0 (two k844_1 (two k844_2 (two k844_3 zero)))
  have r:=allL_i (h w (List.mem_range.mpr hw)) st (mem_b st)
  cases o with
  | true=>exact (bA_i (bA_i r).2).2
  | false=>cases nmf with
    | false=>exact (bA_i r).1
    | true=>exact (bA_i (bA_i r).2).1
section
variable {G : Cx} {n : Nat} {sc : Scope} {ρ ρ1 : Rho} {σ : Sto} {b : Bool} {v : D} {T : Tab}
theorem isOut_i {r : Option (Out × Rho × Sto)} (h : isOut b v ρ σ r = true) : ∃ ρ',r = some (outOf b v,ρ',σ) ∧ SubR ρ ρ':=by
  obtain ⟨⟨o,ρ',s⟩,e,h⟩:=optT_i h
  have h2:=bA_i (bA_i h).2
  have q : o = outOf b v:=sameOut_i (bA_i h).1
  have qs : σ = s:=sto2_i h2.2
  subst q qs
  exact ⟨ρ',e,subB_i h2.1⟩
theorem StT.out (ko : KOk3 G) (ht : TabOk G T) {st : Stmt} (h : isOut b v ρ σ (exS (runF n T) sc st ρ1 σ) = true) : StT G n sc st ρ1 σ (outOf b v) ρ σ:=by
  obtain ⟨ρ',e,w⟩:=isOut_i h
  exact StT.post (StT.run ko ht e) w Conv.refl
theorem ExT.out (ko : KOk3 G) (ht : TabOk G T) {l : List Stmt} (h : isOut b v ρ σ ((runF n T).ex sc l ρ1 σ) = true) : ExT G n sc l ρ1 σ (outOf b v) ρ σ:=by
  obtain ⟨ρ',e,w⟩:=isOut_i h
  exact ExT.post (ExT.run ko ht e) w Conv.refl
theorem turns_any {body : List Stmt} {x : Str} {S : Sto → Prop} (hS : S σ) {p : D → Bool} {X : List D} (h : ∀ a ∈ X,ExT G n sc body (put x (.d a) ρ) σ (outOf (p a) v) ρ σ) : Turns G n sc x body S (X.map .d) ρ σ (outOf (X.any p) v) ρ σ:=by
  induction X with
  | nil=>exact .nil
  | cons a r ih =>
    have h0:=h a (.head _)
    have t:=ih fun b hb=>h b (.tail _ hb)
    rw [List.any_cons,List.map_cons]
    cases q : p a with
    | true=>rw [q] at h0; exact .ret h0
    | false=>rw [q] at h0; exact .next h0 hS t
theorem turns_rng {body : List Stmt} {x : Str} {S : Sto → Prop} (hS : S σ) {p : Nat → Bool} {N : Nat} : ∀ {k : Nat} {z : Bool},(∀ j,j < k + N → k ≤ j → ExT G n sc body (put x (.d (.int (j : Int))) ρ) σ (outOf (p j) v) ρ σ) → (z = false ↔ ∀ j,j < k + N → k ≤ j → p j = false) → Turns G n sc x body S (ints' k N) ρ σ (outOf z v) ρ σ:=by
  induction N with
  | zero =>
    intro k z _ hz
    rw [hz.mpr fun j h1 h2=>absurd h1 (Nat.not_lt.mpr h2)]
    exact .nil
  | succ N ih =>
    intro k z h hz
    have hk : k < k + (N + 1):=Nat.lt_add_of_pos_right (Nat.succ_pos N)
    have h0:=h k hk (Nat.le_refl k)
    cases q : p k with
    | true =>
      rw [q] at h0
      cases z with
      | true=>exact .ret h0
      | false=>exact nT ((hz.mp rfl k hk (Nat.le_refl k)).symm.trans q)
    | false =>
      rw [q] at h0
      rw [Nat.add_comm N 1,← Nat.add_assoc] at h hz
      refine .next h0 hS (ih (k:=k + 1) (fun j h1 h2=>h j h1 (Nat.le_of_succ_le h2)) ⟨fun e j h1 h2=>hz.mp e j h1 (Nat.le_of_succ_le h2),fun e=>hz.mpr fun j h1 h2=>(Nat.eq_or_lt_of_le h2).elim (fun e=>e ▸ q) fun h3=>e j h1 h3⟩)
end
noncomputable def anyN (f : Nat → Bool) (n : Nat) : Bool:=@Nat.rec (fun _=>Bool) false (fun n ih=>bI ih true (f n)) n
theorem anyN_f {f : Nat → Bool} {n : Nat} : anyN f n = false ↔ ∀ k,k < n → f k = false:=by
  induction n with
  | zero=>exact ⟨fun _ k hk=>absurd hk (Nat.not_lt_zero k),fun _=>rfl⟩
  | succ n ih =>
    show bI (anyN f n) true (f n) = false ↔ _
    constructor
    · intro h k hk
      cases q : anyN f n with
      | true=>rw [q] at h; exact nT h.symm
      | false=>rw [q] at h; exact (Nat.lt_succ_iff_lt_or_eq.mp hk).elim (ih.mp q k) fun e=>e ▸ h
    · intro h
      rw [ih.mpr fun k hk=>h k (Nat.lt_succ_of_lt hk)]
      exact h n (Nat.lt_succ_self n)
noncomputable def atI (H : List Int) (k : Nat) : Int:=(H[k]?).getD 0
noncomputable def badAt (st : Bool) (H : List Int) (s l : Nat) : Bool:=badI st (atI H s) (atI H l)
noncomputable def adjN (st : Bool) (H : List Int) : Bool:=anyN (fun k=>badAt st H k (k + 1)) (H.length - 1)
noncomputable def resV (st : Bool) (X : List D) : D:=bI (Nat.blt X.length 2) (.int 0) (bI (X.any lackD) .none (bI (adjN st (X.map hI)) (.int 1) (.int 0)))
theorem resV_in (st : Bool) (X : List D) : resV st X ∈ [D.none,.int 0,.int 1]:=by
  unfold resV
  cases Nat.blt X.length 2 with
  | true=>exact .tail _ (.head _)
  | false=>cases X.any lackD with
    | true=>exact .head _
    | false=>cases adjN st (X.map hI) with
      | true=>exact .tail _ (.tail _ (.head _))
      | false=>exact .tail _ (.head _)
theorem range_ints1 (m : Nat) : range 1 (1 + (m : Int)) = ints' 1 m:=by
  show _ = (List.range' 1 m).map _
  rw [range_is,List.range'_eq_map_range,List.map_map]
  exact List.map_congr_left fun j _=>by
    show SV.d (.int (1 + (j : Int))) = .d (.int ((1 + j : Nat) : Int))
    rw [Int.natCast_add]
    rfl
theorem atI_map {X : List D} {k : Nat} {a : D} (h : X[k]? = some a) : atI (X.map hI) k = hI a:=by
  unfold atI
  rw [List.getElem?_map,h]
  rfl
theorem factLen {V : Vx} {l : LX} {k : Nat} (h : (den V.val l).length = k) : FactsOk V { F0 with lens:=[(l,k)] }:=⟨zero,two h zero,zero,zero,zero⟩
theorem un844_ok {G : Cx} (ko : KOk3 G) {w : Nat} {nmf o st : Bool} (h : chk844 w nmf o st = true) {X : List D} (hX : den G.V.val (lV w o) = X) (hl : X.length ≤ 5) (hm : ∀ a ∈ X,a ∈ alV w o) (ht : ∀ a ∈ alV w o,lackD a = false → a ∈ alTh w) :
    FnT G 61 844 [.ref 0,.d (.bool st)] (unSt w nmf o) (.d (resV st X)) (unSt w nmf o):=by
  unfold chk844 at h
  obtain ⟨ρ,hρ,h⟩:=optT_i h
  generalize unSt w nmf o = σ at h ⊢
  have c0:=bA_i h
  have c1:=bA_i c0.2
  have c2:=bA_i c1.2
  have c3:=bA_i c2.2
  have c4:=bA_i c3.2
  have c5:=bA_i c4.2
  have c6:=bA_i c5.2
  have c7:=bA_i c6.2
  have t0:=tab0 G
  have len : (den G.V.val (lV w o)).length = X.length:=congrArg List.length hX
  have tl:=tabFk (factLen len)
  refine FnT.def' ko (st:=stN 127) (ds:=[.d (.bool false)]) (out:=.ret (.d (resV st X))) (ρ':=ρ) rfl (by kernel_rfl) hρ ?_ rfl (isRes_i (e:=⟨[],[],.d (resV st X),σ⟩) (allL_i c7.2 _ (resV_in st X)))
  rw [b127_shape]
  refine .next (StT.out (b:=false) (v:=.none) ko t0 c0.1) ?_
  have tst:=TstT.run ko tl (isTst_i (allN_i c1.1 X.length (Nat.lt_succ_of_le hl)))
  unfold resV
  cases q2 : Nat.blt X.length 2 with
  | true =>
    rw [q2] at tst
    exact .stop (StT.ite tst (ExT.out (b:=true) (v:=.int 0) ko t0 c2.1)) nofun
  | false =>
    rw [q2] at tst
    refine .next (ρ₁:=ρ) (σ₁:=σ) (StT.ite tst .nil) ?_
    obtain ⟨i,nn,al',e3⟩:=isSyL_i c3.1
    have s:=iterOf_s ko.toKOk (rec0 ko 60).ev _ e3
    have l1 : StT G 60 sc127 (.For (.Name (nm "item") (sa s835 0).pos) (sa s835 1) (sb s835 0) [] s835.pos) ρ σ (outOf (X.any lackD) .none) ρ σ:=by
      refine StT.for s.kn (by kernel_rfl) s.go fun _=>?_
      show Turns G 60 sc127 _ _ _ ((den G.V.val (lV w o)).map .d) _ _ _ _ _
      rw [hX]
      exact turns_any s.here fun a ha=>ExT.out ko t0 (allL_i c4.1 a (hm a ha))
    cases q3 : X.any lackD with
    | true =>
      rw [q3] at l1
      exact .stop l1 nofun
    | false =>
      rw [q3] at l1
      refine .next l1 ?_
      have q2' : 2 ≤ X.length:=Nat.not_lt.mp fun hh=>nT (q2.symm.trans (Nat.blt_eq.mpr hh))
      obtain ⟨N,hN⟩:=Nat.exists_eq_add_of_le' q2'
      have it:=isRng_i (allN_i c5.1 N (by omega))
      have l2 : StT G 60 sc127 (.For (.Name (nm "place") (sa s838 0).pos) (sa s838 1) (sb s838 0) [] s838.pos) ρ σ (outOf (adjN st (X.map hI)) (.int 1)) ρ σ:=by
        rw [← hN] at it
        refine StT.forP ko.toKOk (run_ok ko 60 _ tl).ev (by kernel_rfl) it ?_
        show Turns G 60 sc127 _ _ _ (range 1 (1 + ((N + 1 : Nat) : Int))) _ _ _ _ _
        rw [range_ints1]
        refine turns_rng (S:=fun _=>True) (p:=fun j=>badAt st (X.map hI) (j - 1) j) trivial (fun j h1 h2=>?_) ?_
        · obtain ⟨k,rfl⟩:=Nat.exists_eq_add_of_le' h2
          have hk : k + 1 < X.length:=by omega
          have e1:=List.getElem?_eq_getElem (Nat.lt_of_succ_lt hk)
          have e2:=List.getElem?_eq_getElem hk
          have nl : ∀ {y : D},y ∈ X → y ∈ alTh w:=fun {y} hy=>ht y (hm y hy) (by
            cases q : lackD y with
            | false=>rfl
            | true=>exact nT (q3.symm.trans (List.any_eq_true.mpr ⟨y,hy,q⟩)))
          have r:=allN_i (allL_i (allL_i c6.1 _ (nl (List.getElem_mem (Nat.lt_of_succ_lt hk)))) _ (nl (List.getElem_mem hk))) k (by omega)
          rw [← atI_map e1,← atI_map e2] at r
          exact ExT.out ko (tabFk ⟨zero,zero,two (hX ▸ e1) (two (hX ▸ e2) zero),zero,zero⟩) r
        · unfold adjN
          rw [List.length_map,hN,anyN_f]
          exact ⟨fun h j h1 h2=>by
            obtain ⟨k,rfl⟩:=Nat.exists_eq_add_of_le' h2
            exact h k (by omega),fun h k hk=>h (k + 1) (by omega) (by omega)⟩
      cases q4 : adjN st (X.map hI) with
      | true =>
        rw [q4] at l2
        exact .stop l2 nofun
      | false =>
        rw [q4] at l2
        exact .next l2 (.last (StT.out (b:=true) (v:=.int 0) ko t0 c7.1))
theorem badI_f {st : Bool} {x y : Int} : badI st x y = false ↔ ¬ y < x ∧ (st = true → x ≠ y):=by
  unfold badI
  by_cases h : y < x
  · rw [decide_eq_true h]
    exact ⟨fun q=>nT q.symm,fun q=>absurd h q.1⟩
  · rw [decide_eq_false h]
    cases st with
    | false=>exact ⟨fun _=>⟨h,nofun⟩,fun _=>rfl⟩
    | true=>exact ⟨fun q=>⟨h,fun _=>of_decide_eq_false q⟩,fun q=>decide_eq_false (q.2 rfl)⟩
theorem badI_tr {st : Bool} {x y z : Int} (h : badI st x y = false) (k : badI st y z = false) : badI st x z = false:=by
  rw [badI_f] at h k ⊢
  exact ⟨fun q=>h.1 (Int.lt_of_le_of_lt (Int.not_lt.mp k.1) q),fun q e=>h.2 q (Int.le_antisymm (Int.not_lt.mp h.1) (e ▸ Int.not_lt.mp k.1))⟩
noncomputable def allP (st : Bool) (H : List Int) (k : Nat) : Bool:=anyN (fun l=>anyN (fun s=>badAt st H s l) l) k
theorem eq_off {a b : Bool} (h : a = false → b = false) (k : b = false → a = false) : a = b:=by
  cases a with
  | false=>exact (h rfl).symm
  | true=>cases b with
    | true=>rfl
    | false=>exact nT (k rfl).symm
theorem chainB {st : Bool} {H : List Int} (h : adjN st H = false) {s m : Nat} : s + 1 + m < H.length → badAt st H s (s + 1 + m) = false:=by
  induction m with
  | zero=>exact fun q=>anyN_f.mp h s (Nat.lt_sub_of_add_lt q)
  | succ m ih=>exact fun q=>badI_tr (ih (Nat.lt_of_succ_lt q)) (anyN_f.mp h (s + 1 + m) (Nat.lt_sub_of_add_lt q))
theorem all_adj {st : Bool} {H : List Int} : allP st H H.length = adjN st H:=eq_off (fun h=>anyN_f.mpr fun k hk=>anyN_f.mp (anyN_f.mp h (k + 1) (Nat.add_lt_of_lt_sub hk)) k (Nat.lt_succ_self k)) fun h=>anyN_f.mpr fun l hl=>anyN_f.mpr fun s hs=>by
  obtain ⟨m,rfl⟩:=Nat.exists_eq_add_of_le hs
  exact chainB h hl
theorem tabF_at {f : D → Option D} {x : D} {al : List D} (h : x ∈ al) : tabD (al.map fun a=>(a,f a)) x = f x:=by
  induction h with
  | head r=>exact tabD_cons.trans (by rw [sameD_self]; rfl)
  | tail y _ ih =>
    refine tabD_cons.trans ?_
    cases q : sameD y x with
    | true=>rw [sameD_eq _ _ q]; rfl
    | false=>exact ih
noncomputable def heX (w : Nat) : LX:=.map (tabG heiD (alTh w)) (thX w)
theorem he_ok : allL (fun w=>bA (sameX (heX w) (heX w)) (allL (fun a=>sameD (heiD a) (.int (hI a))) (alTh w))) [0,1,2,3] = true:=by kernel_rfl
section
variable {V : Vx} {w : Nat} (m0 : ∀ a ∈ V.val 0,a ∈ mnu w)
noncomputable def nlD (a : D) : Bool:=!lackD a
include m0
theorem den_th : den V.val (thX w) = (V.val 0).filter nlD:=by
  show (V.val 0).filterMap (tabD (thT w)) = _
  generalize V.val 0 = X at m0
  induction X with
  | nil=>rfl
  | cons a r ih =>
    rw [List.filterMap_cons,List.filter_cons,show tabD (thT w) a = _ from tabF_at (m0 a (.head _)),ih fun b hb=>m0 b (.tail _ hb)]
    unfold nlD
    cases lackD a <;> rfl
theorem mem_th {a : D} (ha : a ∈ (V.val 0).filter nlD) : a ∈ alTh w:=List.mem_filter.mpr ⟨m0 a (List.mem_filter.mp ha).1,(List.mem_filter.mp ha).2⟩
theorem den_he (hw : w < 4) : den V.val (heX w) = (((V.val 0).filter nlD).map hI).map .int:=by
  show (den V.val (thX w)).map _ = _
  rw [den_th m0,List.map_map]
  exact List.map_congr_left fun a ha=>(tabG_at (mem_th m0 ha)).trans (sameD_eq _ _ (allL_i (bA_i (allL_i he_ok w (List.mem_range.mpr hw))).2 a (mem_th m0 ha)))
end
theorem any_nl (X : List D) : (X.filter nlD).any lackD = false:=by
  induction X with
  | nil=>rfl
  | cons a r ih =>
    rw [List.filter_cons]
    cases q : nlD a with
    | false=>exact ih
    | true =>
      show (lackD a || (r.filter nlD).any lackD) = false
      rw [ih,show lackD a = false from Bool.not_eq_true' _ ▸ q]
      rfl
noncomputable def bD (b : Bool) : D:=.int (bI b 1 0)
noncomputable def lessB (o : Bool) (X : List D) : Bool:=bA (Nat.blt (X.filter nlD).length X.length) (bA (Nat.blt 1 X.length) (!o))
noncomputable def dueU (o st : Bool) (X : List D) : D:=bI (lessB o X) .none (bD (allP st ((X.filter nlD).map hI) (X.filter nlD).length))
theorem adj_short {st : Bool} {X : List D} (h : X.length < 2) : adjN st (X.map hI) = false:=by
  unfold adjN
  rw [List.length_map,Nat.sub_eq_zero_of_le (Nat.le_of_lt_succ h)]
  rfl
theorem due_res {o st : Bool} {X : List D} : resV st (bI o (X.filter nlD) X) = dueU o st X:=by
  have le : (X.filter nlD).length ≤ X.length:=List.length_filter_le ..
  have hall : allP st ((X.filter nlD).map hI) (X.filter nlD).length = adjN st ((X.filter nlD).map hI):=(congrArg _ (List.length_map ..).symm).trans all_adj
  unfold dueU
  rw [hall]
  unfold lessB resV
  cases o with
  | true =>
    show bI (Nat.blt (X.filter nlD).length 2) (D.int 0) (bI ((X.filter nlD).any lackD) D.none (bI (adjN st ((X.filter nlD).map hI)) (D.int 1) (D.int 0))) = bI (bA _ (bA _ false)) _ _
    rw [any_nl,show ∀ a b : Bool,bA a (bA b false) = false from fun a b=>by cases a <;> cases b <;> rfl]
    cases q : Nat.blt (X.filter nlD).length 2 with
    | true=>rw [adj_short (Nat.blt_eq.mp q)]; rfl
    | false=>cases adjN st ((X.filter nlD).map hI) <;> rfl
  | false =>
    show bI (Nat.blt X.length 2) (D.int 0) (bI (X.any lackD) D.none (bI (adjN st (X.map hI)) (D.int 1) (D.int 0))) = _
    cases q : Nat.blt X.length 2 with
    | true =>
      have q1:=Nat.blt_eq.mp q
      rw [Bool.eq_false_iff.mpr fun h=>absurd (Nat.blt_eq.mp h) (Nat.not_lt.mpr (Nat.le_of_lt_succ q1)),adj_short (Nat.lt_of_le_of_lt le q1)]
      cases Nat.blt (X.filter nlD).length X.length <;> rfl
    | false =>
      have q2 : Nat.blt 1 X.length = true:=Nat.blt_eq.mpr (Nat.not_lt.mp fun h=>nT (q.symm.trans (Nat.blt_eq.mpr h)))
      rw [q2]
      cases ql : X.any lackD with
      | true =>
        obtain ⟨a,h1,h2⟩:=List.any_eq_true.mp ql
        rw [Nat.blt_eq.mpr (List.length_filter_lt_length_iff_exists.mpr ⟨a,h1,by unfold nlD; rw [h2]; exact nofun⟩)]
        rfl
      | false =>
        rw [List.filter_eq_self.mpr fun a ha=>show nlD a = true from by
          unfold nlD
          cases h : lackD a with
          | false=>rfl
          | true=>exact nT (ql.symm.trans (List.any_eq_true.mpr ⟨a,ha,h⟩)),Bool.eq_false_iff.mpr fun h=>absurd (Nat.blt_eq.mp h) (Nat.lt_irrefl _)]
        cases adjN st (X.map hI) <;> rfl
noncomputable def sc150 : Scope:=scOf (stN 150)
noncomputable def b150 (i : Nat) : Stmt:=stAt (bodyOf (stN 150)) i
noncomputable def s992 : Stmt:=b150 5
noncomputable def s993 : Stmt:=stAt (sb s992 0) 0
noncomputable def s994 : Stmt:=stAt (sb s993 0) 0
noncomputable def s996 : Stmt:=b150 6
noncomputable def A994 : Stmt:=stAt (sb s994 0) 0
noncomputable def A996 : Stmt:=stAt (sb s996 0) 0
noncomputable def tOr1 : Expr:=boE (sa s994 0) 0
noncomputable def tAnd : Expr:=boE (sa s994 0) 1
noncomputable def tMean : Expr:=boE tAnd 0
noncomputable def tOr2 : Expr:=boE tAnd 1
noncomputable def hAt (x : String) (e : Expr) : Expr:=.Subscript (.Name (nm "heights") (pa e 0).pos) (.Name (nm x) (pa e 1).pos) e.pos
theorem s992_shape : s992 = .For (.Name (nm "later") (sa s992 0).pos) (sa s992 1) (sb s992 0) [] s992.pos:=by kernel_rfl
theorem b992_shape : sb s992 0 = [.For (.Name (nm "sooner") (sa s993 0).pos) (sa s993 1) (sb s993 0) [] s993.pos]:=by kernel_rfl
theorem b993_shape : sb s993 0 = [.If (.BoolOp .Or [.Compare (hAt "sooner" (pa tOr1 0)) [.Gt] [hAt "later" (pa tOr1 1)] tOr1.pos,.BoolOp .And [tMean,.Compare (hAt "sooner" (pa tOr2 0)) [.Eq] [hAt "later" (pa tOr2 1)] tOr2.pos] tAnd.pos] (sa s994 0).pos) [.Assign [.Name (nm "due") (sa A994 1).pos] (sa A994 0) A994.pos] [] s994.pos]:=by kernel_rfl
theorem b150_shape : bodyOf (stN 150) = (bodyOf (stN 150)).take 5 ++ [s992,.If (sa s996 0) [.Assign [.Name (nm "due") (sa A996 1).pos] (sa A996 0) A996.pos] [] s996.pos,b150 7,b150 8]:=by kernel_rfl
theorem c_due (ρ : Rho) (σ : Sto) : (runF 40 T0).ev sc150 (sa A994 0) ρ σ = some (.d (.int 1),σ) ∧ (runF 40 T0).ev sc150 (sa A996 0) ρ σ = some (.d .none,σ):=⟨by kernel_rfl,by kernel_rfl⟩
theorem var150 : varB sc150 (nm "heights") = true ∧ varB sc150 (nm "sooner") = true ∧ varB sc150 (nm "later") = true ∧ isComp (sa A994 0) = false ∧ isComp (sa A996 0) = false ∧ isVar sc150 (nm "due") = true ∧ isVar sc150 (nm "sooner") = true ∧ isVar sc150 (nm "later") = true:=⟨by kernel_rfl,by kernel_rfl,by kernel_rfl,by kernel_rfl,by kernel_rfl,by kernel_rfl,by kernel_rfl,by kernel_rfl⟩
theorem kn150 : known (hAt "later" (pa tOr1 1)) = true ∧ known (hAt "later" (pa tOr2 1)) = true:=⟨by kernel_rfl,by kernel_rfl⟩
theorem ne150 : nm "later" ≠ nm "due" ∧ nm "sooner" ≠ nm "later" ∧ nm "sooner" ≠ nm "due" ∧ nm "later" ≠ nm "heights" ∧ nm "due" ≠ nm "heights" ∧ nm "sooner" ≠ nm "heights":=⟨ne_of_seq (by kernel_rfl),ne_of_seq (by kernel_rfl),ne_of_seq (by kernel_rfl),ne_of_seq (by kernel_rfl),ne_of_seq (by kernel_rfl),ne_of_seq (by kernel_rfl)⟩
section
variable {G : Cx} {n : Nat} {sc : Scope} {ρ ρ' : Rho} {σ σ' : Sto} {a b : Expr} {p : Pos} {b1 b2 z : Bool} {op : BoolOp}
theorem AllT.one (h : TstT G n sc b ρ σ b2 σ') : AllT G n sc op ρ [b] σ b2 σ':=by
  have nil : ∀ {z : Bool},z = BoolOp.casesOn op true false → AllT G n sc op ρ [] σ' z σ':=fun e c env cm W E Q s hA X k=>by
    have:=k (tk:=s.toks) X.Y (Kn.Le.refl _)
    subst e
    induction op <;> exact wpAny_pure this
  refine allT_cons h (fun q=>nil ?_) fun _=>⟨rfl,rfl⟩
  cases op <;> cases b2 <;> first | rfl | exact nT q | exact nT q.symm
theorem TstT.bool {es : List Expr} (h : AllT G n sc op ρ es σ z σ') : TstT G n sc (.BoolOp op es p) ρ σ z σ':=fun c env cm W E Q s hA X k=>(arm_isTrue_BoolOp .. : _ = _) ▸ h hA X k
theorem TstT.or2 (h1 : TstT G n sc a ρ σ b1 σ) (h2 : TstT G n sc b ρ σ b2 σ) : TstT G n sc (.BoolOp .Or [a,b] p) ρ σ (bI b1 true b2) σ:=by
  cases b1
  · exact .bool (allT_cons h1 (fun _=>.one h2) fun q=>nT q.symm)
  · exact .bool (allT_cons h1 (fun q=>nT q) fun _=>⟨rfl,rfl⟩)
theorem TstT.and2 (h1 : TstT G n sc a ρ σ b1 σ) (h2 : TstT G n sc b ρ σ b2 σ) : TstT G n sc (.BoolOp .And [a,b] p) ρ σ (bA b1 b2) σ:=by
  cases b1
  · exact .bool (allT_cons h1 (fun q=>nT q) fun _=>⟨rfl,rfl⟩)
  · exact .bool (allT_cons h1 (fun _=>.one h2) fun q=>nT q.symm)
theorem turns_nextR {body : List Stmt} {x : Str} {ρs : Nat → Rho} {N : Nat} : ∀ {k : Nat},(∀ j,j < k + N → ExT G n sc body (put x (.d (.int (j : Int))) (ρs j)) σ .next (ρs (j + 1)) σ) → Turns G n sc x body (fun _=>True) (ints' k N) (ρs k) σ .next (ρs (k + N)) σ:=by
  induction N with
  | zero=>exact fun _=>.nil
  | succ N ih =>
    intro k h
    have t:=ih (k:=k + 1) fun j hj=>h j (by rw [Nat.add_right_comm] at hj; exact hj)
    rw [Nat.add_right_comm] at t
    exact Turns.next (h k (Nat.lt_add_of_pos_right (Nat.succ_pos N))) trivial t
end
section
variable {x y z : Str} {v v' u w : SV} {ρ : Rho}
theorem SubR.put3 (h1 : x ≠ y) (h2 : z ≠ x) (h3 : z ≠ y) (n : lk z ρ = none) : SubR (put x v (put y w ρ)) (put y w (put z u (put x v (put y v' ρ)))):=fun q sv e=>by
  rw [lk_put,lk_put] at e
  rw [lk_put,lk_put,lk_put,lk_put]
  by_cases c1 : y = q
  · rw [if_pos c1]
    rw [if_neg fun c=>h1 (c.trans c1.symm),if_pos c1] at e
    exact e
  · rw [if_neg c1] at e ⊢
    by_cases c2 : z = q
    · rw [if_neg fun c=>h2 (c2.trans c.symm),← c2,n] at e
      exact nS e
    · rw [if_neg c2,if_neg c1]
      exact e
theorem SubR.put2 : SubR (put x v ρ) (put x v (put x w ρ)):=fun q sv e=>by
  rw [lk_put] at e
  rw [lk_put,lk_put]
  by_cases c : x = q
  · rw [if_pos c] at e ⊢; exact e
  · rw [if_neg c] at e ⊢; rw [if_neg c]; exact e
theorem SubR.put_same (h : lk x ρ = some v) : SubR (put x v ρ) ρ:=fun q sv e=>by
  rw [lk_put] at e
  by_cases c : x = q
  · rw [if_pos c] at e; exact c ▸ h.trans e
  · rw [if_neg c] at e; exact e
theorem SubR.put_drop (h : x ≠ y) (n : lk x ρ = none) : SubR (put y w ρ) (put x v (put y w ρ)):=SubR.put_new (by rw [lk_put,if_neg (Ne.symm h),n]; rfl)
end
noncomputable def rD (d : Bool) (ρ : Rho) : Rho:=put (nm "due") (.d (bD d)) ρ
noncomputable def rL (k : Nat) (d : Bool) (ρ : Rho) : Rho:=put (nm "later") (.d (.int (k : Int))) (rD d ρ)
noncomputable def rS' (j k : Nat) (d : Bool) (ρ : Rho) : Rho:=put (nm "sooner") (.d (.int (j : Int))) (rL k d ρ)
theorem cmpI (x y : Int) (σ : Sto) : cmp F0 .Gt (.d (.int x)) (.d (.int y)) σ = some (decide (y < x)) ∧ cmp F0 .Eq (.d (.int x)) (.d (.int y)) σ = some (decide (x = y)):=⟨rfl,rfl⟩
theorem turn993 {G : Cx} (ko : KOk3 G) {L : LX} (hs : sameX L L = true) {i nn k j : Nat} {al : List D} {st : Bool} {H : List Int} {ρ : Rho} {σ : Sto} (hh : lk (nm "heights") ρ = some (.ref i)) (n2 : lk (nm "sooner") ρ = none) (ho : σ[i]? = some (.sy nn al L))
    (hH : den G.V.val L = H.map .int) (h5 : H.length ≤ 5) (hj : j < k) (hk : k < H.length) {d : Bool} (hm : (runF 80 T0).tst sc150 tMean (rS' j k d ρ) σ = some (st,σ)) : ExT G 90 sc150 (sb s993 0) (rS' j k d ρ) σ .next (rL k (bI d true (badAt st H j k)) ρ) σ:=by
  obtain ⟨lh,ls,ll,ci,_,vd,_⟩:=var150
  obtain ⟨n1,n3,n4,n5,n6,n7⟩:=ne150
  have at' : ∀ {k},k < H.length → (den G.V.val L)[k]? = some (.int (atI H k)):=fun {k} hk=>by
    unfold atI
    rw [hH,List.getElem?_map,List.getElem?_eq_getElem hk]
    rfl
  have s0 : lk (nm "sooner") (rS' j k d ρ) = some (.d (.int (j : Int))):=lk_putv
  have l0 : lk (nm "later") (rS' j k d ρ) = some (.d (.int (k : Int))):=(lk_put _ _).trans ((if_neg n3).trans lk_putv)
  have h0 : lk (nm "heights") (rS' j k d ρ) = some (.ref i):=(lk_put _ _).trans ((if_neg n7).trans ((lk_put _ _).trans ((if_neg n5).trans ((lk_put _ _).trans ((if_neg n6).trans hh)))))
  have item : ∀ {x : String} {m : Nat} (e : Expr),varB sc150 (nm x) = true → lk (nm x) (rS' j k d ρ) = some (.d (.int (m : Int))) → m < H.length → EvT G 80 sc150 (hAt x e) (rS' j k d ρ) σ (.d (.int (atI H m))) σ:=fun {x m} e hx hl hm=>EvT.sub (factAt (V:=G.V) (at' hm)) (EvT.var ko.toKOk lh h0) (EvT.var ko.toKOk hx hl) ((sub_at ho (Nat.lt_of_lt_of_le hm (Nat.le_trans h5 (by decide)))).trans (show om (atX L m [(L,m,D.int (atI H m))]) SV.d = some (.d (.int (atI H m))) by rw [atX_self hs]; rfl))
  have hjl:=Nat.lt_trans hj hk
  have t1:=(EvT.cmp (op:=.Gt) (pos:=tOr1.pos) (FactsOk.nil G.V []) kn150.1 (item (pa tOr1 0) ls s0 hjl) (item (pa tOr1 1) ll l0 hk) (cmpI _ _ _).1).2
  have t2:=(EvT.cmp (op:=.Eq) (pos:=tOr2.pos) (FactsOk.nil G.V []) kn150.2 (item (pa tOr2 0) ls s0 hjl) (item (pa tOr2 1) ll l0 hk) (cmpI _ _ _).2).2
  have tst : TstT G 90 sc150 _ (rS' j k d ρ) σ (badAt st H j k) σ:=TstT.le (TstT.or2 (p:=(sa s994 0).pos) t1 (TstT.and2 (p:=tAnd.pos) (TstT.run ko (tab0 G) hm) t2)) (by decide)
  have drop : SubR (rL k d ρ) (rS' j k d ρ):=SubR.put_drop n3 ((lk_put _ _).trans ((if_neg (Ne.symm n4)).trans n2))
  rw [b993_shape]
  refine .last (StT.ite tst ?_)
  cases hb : badAt st H j k with
  | true =>
    rw [show bI d true true = true by cases d <;> rfl]
    exact ExT.post (.last (StT.assignN ci vd (EvT.le (EvT.run ko (tab0 G) (c_due _ _).1) (by decide)))) (SubR.put3 n1 n3 n4 n2) Conv.refl
  | false =>
    rw [show bI d true false = d by cases d <;> rfl]
    exact ExT.post .nil drop Conv.refl
theorem loop992 {G : Cx} (ko : KOk3 G) {L : LX} (hs : sameX L L = true) {i nn m : Nat} {al be : List D} {st : Bool} {H : List Int} {ρ : Rho} {σ : Sto} (hh : lk (nm "heights") ρ = some (.ref i)) (n1 : lk (nm "later") ρ = none) (n2 : lk (nm "sooner") ρ = none) (ho : σ[i]? = some (.sy nn al L))
    (hH : den G.V.val L = H.map .int) (h5 : H.length ≤ 5) (hov : overOf (runF 40 T0) sc150 (rD false ρ) (sa s992 1) σ = some (m,be,L,σ)) (hin : ∀ k : Nat,k < 5 → ∀ d,iterOf (runF 40 T0) sc150 (rL k d ρ) (sa s993 1) σ = some (.range 0 k,σ)) (hm : ∀ j k d,(runF 80 T0).tst sc150 tMean (rS' j k d ρ) σ = some (st,σ)) :
    StT G 90 sc150 s992 (rD false ρ) σ .next (rD (allP st H H.length) ρ) σ:=by
  obtain ⟨_,_,_,_,_,_,vs,vl⟩:=var150
  have inner : ∀ k : Nat,k < H.length → ∀ d : Bool,ExT G 90 sc150 (sb s992 0) (rL k d ρ) σ .next (rD (bI d true (anyN (fun s=>badAt st H s k) k)) ρ) σ:=fun k hk d=>by
    rw [b992_shape]
    refine .last (StT.post (ρ':=rL k (bI d true (anyN (fun s=>badAt st H s k) k)) ρ) (StT.le (StT.forP ko.toKOk (EvOk.le (rec0 ko 40).ev (show 40 ≤ 90 by decide)) vs (hin k (Nat.lt_of_lt_of_le hk h5) d) ?_) (Nat.le_refl 90)) (SubR.put_drop ne150.1 n1) Conv.refl)
    show Turns G 90 sc150 _ _ _ (range 0 (0 + (k : Int))) _ _ _ _ _
    rw [range_ints]
    have t:=turns_nextR (G:=G) (n:=90) (sc:=sc150) (body:=sb s993 0) (x:=nm "sooner") (σ:=σ) (ρs:=fun j=>rL k (bI d true (anyN (fun s=>badAt st H s k) j)) ρ) (N:=k) (k:=0) fun j hj=>by
      rw [Nat.zero_add] at hj
      have r:=turn993 ko hs hh n2 ho hH h5 hj hk (d:=bI d true (anyN (fun s=>badAt st H s k) j)) (hm _ _ _)
      rw [show ∀ a b c : Bool,bI (bI a true b) true c = bI a true (bI b true c) from fun a b c=>by cases a <;> rfl] at r
      exact r
    rw [Nat.zero_add,show bI d true (anyN (fun s=>badAt st H s k) 0) = d by cases d <;> rfl] at t
    exact t
  rw [s992_shape]
  refine loop_over ko (tab0 G) (by decide) vl hov Conv.refl fun re M=>?_
  have t:=turns_nextR (G:=G) (n:=90) (sc:=sc150) (body:=sb s992 0) (x:=nm "later") (σ:=σ) (ρs:=fun k=>rD (allP st H k) ρ) (N:=H.length) (k:=0) fun k hk=>inner k (Nat.zero_add H.length ▸ hk) (allP st H k)
  rw [Nat.zero_add] at t
  rw [hH,List.length_map]
  exact t
noncomputable def unsE (w : Nat) (nmf o st : Bool) (x : D) : Memo:=⟨[.ref 0,.d (.bool st)],unSt w nmf o,.d x,unSt w nmf o⟩
noncomputable def TNi (w : Nat) (nmf o st : Bool) (x : D) : Tab:=tabOf 90 F0 [(545,true,memo tkUns),(858,false,memo flags),(844,false,memo [unsE w nmf o st x])] [] []
noncomputable def TNo (w : Nat) (nmf o st : Bool) (x : D) : Tab:=tabOf 151 F0 [(935,false,F935c (TNi w nmf o st x))] [] []
noncomputable def TN0 (b1 b2 : Nat) : Tab:=tabOf 151 F0 [(904,false,Fdraw [(44,3,(b1 : Int),45),(45,3,(b2 : Int),46)])] [] []
noncomputable def run5 (w b1 b2 : Nat) (nmf : Bool) (s : Int) (ρ0 : Rho) : Option (Rho × Sto):=runSs (runF 198 (TN0 b1 b2)) sc150 ((bodyOf (stN 150)).take 5) ρ0 (stU w nmf 44)
noncomputable def bind5 (w : Nat) (nmf : Bool) (s : Int) : Option Rho:=bindA [] (K.lmap (·.arg) (psOf (stN 150)).args) (memoU w nmf s).args
noncomputable def mid0 (w : Nat) (st : Bool) (ρ : Rho) (σ : Sto) : Option Unit:=refAt "heights" ρ fun i=>aSy σ i fun _ _ lx=>obOv (overOf (runF 40 T0) sc150 (rD false ρ) (sa s992 1) σ) fun _ _ l' σ₁=>gd (bA (bA (lk (nm "later") ρ).isNone (bA (lk (nm "sooner") ρ).isNone (optT (sameV (.d (.int 0))) (lk (nm "due") ρ)))) (bA (sameX (heX w) lx) (bA (sameX (heX w) l') (sto2 σ σ₁)))) (some ())
noncomputable def mid1 (st : Bool) (j l : Nat) (d : Bool) (ρ : Rho) (σ : Sto) : Bool:=bA (allN (fun k=>isRng 0 k σ (iterOf (runF 40 T0) sc150 (rL k d ρ) (sa s993 1) σ)) 5) (isTst st σ ((runF 80 T0).tst sc150 tMean (rS' j l d ρ) σ))
noncomputable def lensT (w n t : Nat) : Tab:=TF { F0 with lens:=[(.var 0,n),(thX w,t)] }
noncomputable def chk7 (w : Nat) (o d : Bool) (ρ : Rho) (σ : Sto) : Bool:=allN (fun n=>allN (fun t=>bI (Nat.ble t n) (isTst (bA (Nat.blt t n) (bA (Nat.blt 1 n) (!o))) σ ((runF 80 (lensT w n t)).tst sc150 (sa s996 0) (rD d ρ) σ)) true) 6) 6
noncomputable def run89 (w : Nat) (nmf o st : Bool) (x : D) (ρ : Rho) (σ : Sto) : An:=o3 (exS (runF 198 (TNo w nmf o st x)) sc150 (b150 7) (put (nm "due") (.d x) ρ) σ) fun o ρ1 σ1=>nextO o (o3 (exS (runF 198 T0) sc150 (b150 8) ρ1 σ1) fun o _ σ2=>oo (outV o) fun v=>gc (K.len (stU w nmf 44)) v σ2)
noncomputable def chkN (w b1 b2 : Nat) (nmf : Bool) (s : Int) (j l : Nat) (d : Bool) : Bool:=optT (fun ρ0=>optT (fun r=>bA (mid0 w (Nat.beq b2 1) r.1 r.2).isSome (bA (mid1 (Nat.beq b2 1) j l d r.1 r.2) (bA (chk7 w (Nat.beq b1 1) d r.1 r.2)
  (allL (fun x=>isRes ⟨[],[],.d (.bool true),stU w nmf 46⟩ (run89 w nmf (Nat.beq b1 1) (Nat.beq b2 1) x r.1 r.2)) [.none,.int 0,.int 1])))) (run5 w b1 b2 nmf s ρ0)) (bind5 w nmf s)
noncomputable def nB (w b1 : Nat) (s : Int) (j l : Nat) (d : Bool) : Bool:=allN (fun b2=>allL (fun n=>chkN w b1 b2 n s j l d) [false,true]) 3
section
variable (s : Int) (j l : Nat) (d : Bool)
theorem kN00 : nB 0 0 s j l d = true:=by kernel_rfl
theorem kN01 : nB 0 1 s j l d = true:=by kernel_rfl
theorem kN02 : nB 0 2 s j l d = true:=by kernel_rfl
theorem kN10 : nB 1 0 s j l d = true:=by kernel_rfl
theorem kN11 : nB 1 1 s j l d = true:=by kernel_rfl
theorem kN12 : nB 1 2 s j l d = true:=by kernel_rfl
theorem kN20 : nB 2 0 s j l d = true:=by kernel_rfl
theorem kN21 : nB 2 1 s j l d = true:=by kernel_rfl
theorem kN22 : nB 2 2 s j l d = true:=by kernel_rfl
theorem kN30 : nB 3 0 s j l d = true:=by kernel_rfl
theorem kN31 : nB 3 1 s j l d = true:=by kernel_rfl
theorem kN32 : nB 3 2 s j l d = true:=by kernel_rfl
end
theorem kN_at {w b1 b2 : Nat} (hw : w < 4) (h1 : b1 < 3) (h2 : b2 < 3) (nmf : Bool) (s : Int) (j l : Nat) (d : Bool) : chkN w b1 b2 nmf s j l d = true:=by
  have h : ∀ w ∈ [0,1,2,3],∀ b ∈ r3,nB w b s j l d = true:=two (two (kN00 s j l d) (two (kN01 s j l d) (two (kN02 s j l d) zero))) (two (two (kN10 s j l d) (two (kN11 s j l d) (two (kN12 s j l d) zero))) (two (two (kN20 s j l d) (two (kN21 s j l d) (two (kN22 s j l d) zero))) (two (two (kN30 s j l d) (two (kN31 s j l d) (two (kN32 s j l d) zero))) zero)))
  exact allL_i (allN_i (h w (List.mem_range.mpr hw) b1 (List.mem_range.mpr h1)) b2 h2) nmf (mem_b nmf)
theorem mid0_s {w : Nat} {st : Bool} {ρ : Rho} {σ : Sto} {P : Prop} (h : (mid0 w st ρ σ).isSome = true) (k : ∀ i nn al m be,lk (nm "heights") ρ = some (.ref i) → σ[i]? = some (.sy nn al (heX w)) → overOf (runF 40 T0) sc150 (rD false ρ) (sa s992 1) σ = some (m,be,heX w,σ) → lk (nm "later") ρ = none → lk (nm "sooner") ρ = none → lk (nm "due") ρ = some (.d (.int 0)) → P) : P:=by
  obtain ⟨u,e⟩:=Option.isSome_iff_exists.mp h
  have s : Sat (mid0 w st ρ σ) fun _=>P:=.refAt fun i hi=>.aSy fun nn al lx ho=>.obOv fun m be l' σ₁ hv=>.gd fun h=>.yes (by
    have h1:=bA_i (bA_i h).1
    have h2:=bA_i (bA_i h).2
    have h3:=bA_i h1.2
    have h4:=bA_i h2.2
    obtain ⟨v,e1,e2⟩:=optT_i h3.2
    cases sameX_eq _ _ h2.1
    cases sameX_eq _ _ h4.1
    cases sto2_i h4.2
    exact k i nn al m be hi ho hv (Option.isNone_iff_eq_none.mp h1.1) (Option.isNone_iff_eq_none.mp h3.1) (e1.trans (congrArg some (sameV_eq _ _ e2).symm)))
  exact s e
theorem run89_s {G : Cx} (ko : KOk3 G) {w : Nat} {nmf o st : Bool} {x : D} {ρ : Rho} {σ : Sto} (ht : TabOk G (TNo w nmf o st x)) : Sat (run89 w nmf o st x ρ σ) (U2 fun sv σ3=>∃ v out ρ2 σ2,ExT G 198 sc150 [b150 7,b150 8] (put (nm "due") (.d x) ρ) σ out ρ2 σ2 ∧ outV out = some v ∧ gc (K.len (stU w nmf 44)) v σ2 = some (sv,σ3)) :=
  .o3 (Q:=fun o ρ1 σ1=>StT G 198 sc150 (b150 7) (put (nm "due") (.d x) ρ) σ o ρ1 σ1) (fun q e=>StT.run ko ht e) fun o ρ1 σ1 h=>(Sat.nextO (P:=fun o r=>StT G 198 sc150 (b150 7) (put (nm "due") (.d x) ρ) σ o ρ1 σ1 → U2 (fun sv σ3=>∃ v out ρ2 σ2,ExT G 198 sc150 [b150 7,b150 8] (put (nm "due") (.d x) ρ) σ out ρ2 σ2 ∧ outV out = some v ∧ gc (K.len (stU w nmf 44)) v σ2 = some (sv,σ3)) r) (.o3 (Q:=fun o ρ2 σ2=>StT G 198 sc150 (b150 8) ρ1 σ1 o ρ2 σ2) (fun q e=>StT.run ko (tab0 G) e) fun o2 ρ2 σ2 h2=>.oo fun v hv r e h=>⟨v,o2,ρ2,σ2,.next h (.last h2),hv,e⟩)).mono fun _ k=>k h
theorem dueU_in (o st : Bool) (X : List D) : dueU o st X ∈ [D.none,.int 0,.int 1]:=by
  unfold dueU
  cases lessB o X with
  | true=>exact .head _
  | false=>cases allP st ((X.filter nlD).map hI) (X.filter nlD).length with
    | true=>exact .tail _ (.tail _ (.head _))
    | false=>exact .tail _ (.head _)
theorem un844_at {G : Cx} (ko : KOk3 G) {w : Nat} (hw : w < 4) (nmf o st : Bool) (m0 : ∀ a ∈ G.V.val 0,a ∈ mnu w) (l0 : (G.V.val 0).length ≤ 5) : FnT G 61 844 [.ref 0,.d (.bool st)] (unSt w nmf o) (.d (dueU o st (G.V.val 0))) (unSt w nmf o):=by
  rw [← due_res]
  refine un844_ok ko (k844_at hw nmf o st) ?_ ?_ (fun a ha=>?_) fun a ha hn=>?_
  · cases o
    · rfl
    · exact den_th m0
  · cases o
    · exact l0
    · exact Nat.le_trans (List.length_filter_le ..) l0
  · cases o
    · exact m0 a ha
    · exact mem_th m0 ha
  · cases o
    · exact List.mem_filter.mpr ⟨ha,by rw [hn]; rfl⟩
    · exact ha
theorem unsorted_ok {G : Cx} (ko : KOk3 G) {w b1 b2 : Nat} (hw : w < 4) (hb1 : b1 < 3) (hb2 : b2 < 3) (nmf : Bool) (m0 : ∀ a ∈ G.V.val 0,a ∈ mnu w) (l0 : (G.V.val 0).length ≤ 5) (d1 : DrawOk G.V (44,3,(b1 : Int),45)) (d2 : DrawOk G.V (45,3,(b2 : Int),46)) (s : Int) : FnT G 200 971 (memoU w nmf s).args (stU w nmf 44) (.d (.bool true)) (stU w nmf 46):=by
  have all:=kN_at hw hb1 hb2 nmf s
  generalize hst : Nat.beq b2 1 = st at all
  generalize ho : Nat.beq b1 1 = o at all
  have tN0 : TabOk G (TN0 b1 b2):=tabOf_ok (FactsOk.nil G.V []) (two (.open (FnOk.le (Fdraw_ok ko (two d1 (two d2 zero))) (by decide))) zero) zero zero
  have tNo : TabOk G (TNo w nmf o st (dueU o st (G.V.val 0))):=tabOf_ok (FactsOk.nil G.V []) (two (.open (F935c_s ko (tabOf_ok (FactsOk.nil G.V []) (two (take_ok ko (by decide) tkUns_k) (two (.open (FnOk.le (memo_ok fun e he=>chkFn_ok ko (tab0 G) (allL_i flags_k e he)) (by decide))) (two (.open (FnOk.le (memo_ok (two (un844_at ko hw nmf o st m0 l0) zero)) (by decide))) zero))) zero zero))) zero) zero zero
  obtain ⟨ρ0,hb,-⟩:=optT_i (all 0 0 false)
  obtain ⟨⟨ρ,σ⟩,hr,-⟩:=optT_i (show optT _ (run5 w b1 b2 nmf s ρ0) = true from by have t:=all 0 0 false; unfold chkN at t; rw [hb] at t; exact t)
  have A : ∀ j l d,(mid0 w st ρ σ).isSome = true ∧ mid1 st j l d ρ σ = true ∧ chk7 w o d ρ σ = true ∧ allL (fun x=>isRes ⟨[],[],.d (.bool true),stU w nmf 46⟩ (run89 w nmf o st x ρ σ)) [.none,.int 0,.int 1] = true:=fun j l d=>by
    have t:=all j l d
    unfold chkN at t
    rw [hb] at t
    have t : optT _ (run5 w b1 b2 nmf s ρ0) = true:=t
    rw [hr,hst,ho] at t
    have t1:=bA_i t
    have t2:=bA_i t1.2
    have t3:=bA_i t2.2
    exact ⟨t1.1,t2.1,t3.1,t3.2⟩
  refine mid0_s (A 0 0 false).1 fun i nn al m be hh hs hov n1 n2 hd=>?_
  have hH:=den_he m0 hw
  have le : ((G.V.val 0).filter nlD).length ≤ (G.V.val 0).length:=List.length_filter_le ..
  have lp:=loop992 ko (bA_i (allL_i he_ok w (List.mem_range.mpr hw))).1 hh n1 n2 hs hH ((List.length_map ..).symm ▸ Nat.le_trans le l0) hov (fun k hk d=>isRng_i (allN_i (bA_i (A 0 0 d).2.1).1 k hk)) fun j k d=>isTst_i (bA_i (A j k d).2.1).2
  have c:=isRes_i (e:=⟨[],[],.d (.bool true),stU w nmf 46⟩) (allL_i (A 0 0 false).2.2.2 _ (dueU_in o st (G.V.val 0)))
  obtain ⟨v,out,ρ2,σ2,tl,hv,g⟩:=run89_s ko tNo c
  rw [List.length_map] at lp
  have dd : dueU o st (G.V.val 0) = bI (lessB o (G.V.val 0)) .none (bD (allP st (((G.V.val 0).filter nlD).map hI) ((G.V.val 0).filter nlD).length)):=rfl
  rw [dd] at tl
  generalize allP st (((G.V.val 0).filter nlD).map hI) ((G.V.val 0).filter nlD).length = D0 at lp tl
  have tst : TstT G 80 sc150 (sa s996 0) (rD D0 ρ) σ (lessB o (G.V.val 0)) σ:=TstT.run ko (T:=lensT w (G.V.val 0).length ((G.V.val 0).filter nlD).length) (tabFk ⟨zero,two rfl (two (congrArg List.length (den_th m0)) zero),zero,zero,zero⟩) (isTst_i (by
    have c:=allN_i (allN_i (A 0 0 D0).2.2.1 (G.V.val 0).length (Nat.lt_succ_of_le l0)) ((G.V.val 0).filter nlD).length (Nat.lt_succ_of_le (Nat.le_trans le l0))
    rw [Nat.ble_eq_true_of_le le] at c
    exact c))
  obtain ⟨_,_,_,_,ci,vd,_⟩:=var150
  have s6 : StT G 198 sc150 (.If (sa s996 0) [.Assign [.Name (nm "due") (sa A996 1).pos] (sa A996 0) A996.pos] [] s996.pos) (rD D0 ρ) σ .next (put (nm "due") (.d (bI (lessB o (G.V.val 0)) .none (bD D0))) ρ) σ:=StT.ite (TstT.le tst (by decide)) (by
    cases lessB o (G.V.val 0) with
    | true=>exact ExT.post (.last (StT.assignN ci vd (EvT.le (EvT.run ko (tab0 G) (c_due _ _).2) (by decide)))) SubR.put2 Conv.refl
    | false=>exact .nil)
  refine FnT.le (FnT.def' ko (st:=stN 150) (ds:=[]) rfl (by kernel_rfl) hb (out:=out) (ρ':=ρ2) (σ':=σ2) ?_ hv g) (show 199 ≤ 200 by decide)
  rw [b150_shape]
  exact runSs_s ko tN0 _ _ _ hr (ExT.pre (.next (StT.le lp (by decide)) (.next s6 tl)) (SubR.put_same hd) Conv.refl)
noncomputable def initS : List SV → Option (List SV):=@List.rec SV (fun _=>Option (List SV)) none fun x r ih=>@List.casesOn SV (fun _=>Option (List SV)) r (vInt x fun _=>some []) fun _ _=>om ih fun a=>x :: a
noncomputable def memoS (es : List Memo) : Fn:=fun args σ=>oo (initS args) fun a=>memo es a σ
noncomputable def kAl (w1 w2 w : Nat) : List D:=(mnu w).map (keyD w (asT w1 w2))
noncomputable def stKeys (w1 w2 : Nat) : Sto:=[.sy 5 (kAl w1 w2 w1) (.map (keyT w1 (asT w1 w2)) (.var 0)),.sy 5 (kAl w1 w2 w2) (.map (keyT w2 (asT w1 w2)) (.var 1))]
noncomputable def st961 (w1 w2 : Nat) (nmf : Bool) (q : Nat) : Sto:=K.app (uvS w1 w2 nmf) (K.app (stKeys w1 w2) [.bd q])
noncomputable def e961 (w1 w2 : Nat) (nmf : Bool) : Memo:=⟨[.ref 0,.ref (uLen (isFac w1) nmf),.ref (uvN0 (isFac w1) nmf (isFac w2)),.ref (uvN0 (isFac w1) nmf (isFac w2) + 1),.ref (uvN0 (isFac w1) nmf (isFac w2) + 2)],st961 w1 w2 nmf 42,.d (.bool true),st961 w1 w2 nmf 43⟩
noncomputable def eU (w : Nat) (nmf : Bool) (q q' : Nat) : Memo:=⟨[.ref 0,.d (srt w),.ref (uLen (isFac w) nmf),.ref (uLen (isFac w) nmf + 1)],stU w nmf q,.d (.bool true),stU w nmf q'⟩
noncomputable def qW1 (w : Nat) : Nat:=bI (isFac w) 44 46
noncomputable def e976 (w : Nat) : Memo:=⟨[.ref 0],[.bd (qW1 w)],.d (.bool true),[.bd 47]⟩
noncomputable def TL (w1 w2 : Nat) (nmf : Bool) (sty : Int) : Tab:=tabOf 201 F0 [(904,false,Fdraw [(40,2,bI nmf 1 0,41),(41,3,sty,42)]),(961,false,memoS [e961 w1 w2 nmf]),(966,false,memoS [eU w1 nmf 43 44]),(971,false,memoS (bI (isFac w1) [] [eU w1 nmf 44 46])),(976,false,memoS [e976 w1])] [] []
noncomputable def s17 : Stmt:=lawS 17
noncomputable def tryS : Stmt:=stAt (sb s17 0) 0
noncomputable def tryQ (s : Stmt) : List Stmt × List ExceptHandler:=@Stmt.casesOn (fun _=>List Stmt × List ExceptHandler) s (fun _ _ _ _ _ _ _ _ _ _=>([],[])) (fun _ _ _ _ _ _ _ _ _ _=>([],[])) (fun _ _ _ _ _ _ _ _ _ _ _=>([],[])) (fun _ _=>([],[])) (fun _ _=>([],[])) (fun _ _ _=>([],[])) (fun _ _ _ _ _ _ _=>([],[])) (fun _ _ _ _=>([],[])) (fun _ _ _ _ _=>([],[]))
  (fun _ _ _ _ _=>([],[])) (fun _ _ _ _ _=>([],[])) (fun _ _ _ _=>([],[])) (fun _ _ _ _=>([],[])) (fun _ _ _=>([],[])) (fun _ _ _=>([],[])) (fun _ _ _=>([],[])) (fun e _ _=>([.Return e ⟨0,0,0,0⟩],[])) (fun b h _ _ _=>(b,h)) (fun _ _ _ _ _=>([],[])) (fun _ _ _=>([],[])) (fun _ _=>([],[])) (fun _ _ _ _=>([],[])) (fun _ _=>([],[])) (fun _ _=>([],[])) (fun _ _=>([],[])) (fun _=>([],[])) (fun _=>([],[])) (fun _=>([],[]))
noncomputable def tryB (i : Nat) : Stmt:=stAt (tryQ tryS).1 i
noncomputable def tcE : Expr:=sa (tryB 0) 0
noncomputable def args1 (e : Expr) : List Expr:=@Option.rec (Sk × List Expr) (fun _=>List Expr) [] (fun v=>v.2.tail) (view e)
noncomputable def bw : Stmt:=stN 131
noncomputable def wt : Stmt:=stN 97
noncomputable def bwS (i : Nat) : Stmt:=stAt (bodyOf bw) i
noncomputable def wtS : Stmt:=stAt (bodyOf wt) 0
noncomputable def tryR (ρ : Rho) (σ : Sto) : Option Unit:=gd (lk (nm "said") ρ).isNone (ob (evL (runF 60 T0) lawSc ρ (args1 tcE) σ) fun vs σ1=>oo (bindA [] (K.lmap (·.arg) (psOf bw).args) vs) fun ρb=>ob (runSs (runF 100 T0) (scOf bw) [bwS 0,bwS 1] ρb σ1) fun ρ2 σ2=>oo (nameV (scOf bw) (nm "v") ρ2) fun v=>vRef v fun i =>
  gd (bA (isTst true σ2 ((runF 60 T0).tst (scOf wt) (sa wtS 0) [(nm "v",.ref i)] σ2)) (isRes ⟨[],[],.d .none,σ⟩ (gc (K.len σ) (.d .none) σ2))) (some ()))
noncomputable def tail12 : List Stmt:=((bodyOf (stN 152)).drop 5).take 12
noncomputable def endB (o : Out) (σ : Sto) : Bool:=@Out.casesOn (fun _=>Bool) o false false false fun v=>bA (sameV v (.d (.bool true))) (optT (fun o=>sameO o (.any 0)) (K.nth σ 0))
noncomputable def chkTl (w1 w2 : Nat) (nmf : Bool) (sty : Int) : Bool:=optT (fun r=>bA (bI (Nat.beq w1 0) true (tryR r.1 r.2).isSome) (bA (isTst (!(Nat.beq w1 0)) r.2 ((runF 60 T0).tst lawSc (sa s17 0) r.1 r.2)) (optT (fun q=>endB q.1 q.2.2) (exS (runF 100 T0) lawSc (lawS 18) r.1 r.2)))) (runSs (runF 245 (TL w1 w2 nmf sty)) lawSc tail12 (ρd (srt w1) (srt w2)) (σ5 w1 w2))
noncomputable def tlB (w1 : Nat) (sty : Int) : Bool:=allL (fun w2=>allL (fun n=>chkTl w1 w2 n sty) [false,true]) r5
theorem kTl0 (sty : Int) : tlB 0 sty = true:=by kernel_rfl
theorem kTl1 (sty : Int) : tlB 1 sty = true:=by kernel_rfl
theorem kTl2 (sty : Int) : tlB 2 sty = true:=by kernel_rfl
theorem kTl3 (sty : Int) : tlB 3 sty = true:=by kernel_rfl
theorem kTl4 (sty : Int) : tlB 4 sty = true:=by kernel_rfl
theorem chkTl_at {w1 w2 : Nat} (h1 : w1 < 5) (h2 : w2 < 5) (nmf : Bool) (sty : Int) : chkTl w1 w2 nmf sty = true:=by
  have h : ∀ w ∈ r5,tlB w sty = true:=two (kTl0 sty) (two (kTl1 sty) (two (kTl2 sty) (two (kTl3 sty) (two (kTl4 sty) zero))))
  exact allL_i (allL_i (h w1 (mem5 h1)) w2 (mem5 h2)) nmf (mem_b nmf)
theorem initS_s (args : List SV) : Sat (initS args) fun a=>∃ s : Int,args = a ++ [.d (.int s)]:=by
  induction args with
  | nil=>exact .no
  | cons x r ih =>
    cases r with
    | nil =>
      refine .vInt (P:=fun x a=>∃ s : Int,[x] = a ++ [.d (.int s)]) fun i=>?_
      exact .yes ⟨i,rfl⟩
    | cons y r =>
      refine .om fun a h=>?_
      obtain ⟨s,e⟩:=ih h
      exact ⟨s,congrArg (x :: ·) e⟩
theorem memoS_ok {G : Cx} {n a : Nat} {es : List Memo} (h : ∀ e ∈ es,∀ s : Int,FnT G n a (e.args ++ [.d (.int s)]) e.st e.val e.out) : FnOk G n a (memoS es):=fun args σ=>.oo fun b hb=>.om fun e he=>by
  obtain ⟨hm,he⟩:=Sat.findB es he
  have h2:=bA_i (bA_i he).2
  obtain ⟨s,rfl⟩:=initS_s args hb
  have t:=h e hm s
  rw [allB_eq sameV_eq _ _ (bA_i he).1,sameS_eq h2.1 (Nat.eq_of_beq_eq_true h2.2)] at t
  exact t
theorem kAl_in : allL (fun w1=>allL (fun w2=>bA (allL (fun a=>hasD a KAL) (kAl w1 w2 w1)) (allL (fun a=>hasD a KAL) (kAl w1 w2 w2))) r5) r5 = true:=by kernel_rfl
theorem keys_cv {V : Vx} {w1 w2 w iv i : Nat} (hm : ∀ a ∈ V.val iv,a ∈ mnu w) (hl : (V.val iv).length ≤ 5) (hk : V.val i = (V.val iv).map (keyD w (asT w1 w2))) (hK : allL (fun a=>hasD a KAL) (kAl w1 w2 w) = true) :
    CvO V V (.sy 5 (kAl w1 w2 w) (.map (keyT w (asT w1 w2)) (.var iv))) (.sy 5 KAL (.var i)) ∧ CvO V V (.sy 5 KAL (.var i)) (.sy 5 (kAl w1 w2 w) (.map (keyT w (asT w1 w2)) (.var iv))):=by
  have e : den V.val (.map (keyT w (asT w1 w2)) (.var iv)) = V.val i:=hk ▸ List.map_congr_left fun a ha=>tabG_at (hm a ha)
  have mem : ∀ x ∈ V.val i,x ∈ kAl w1 w2 w:=fun x hx=>by
    rw [hk] at hx
    obtain ⟨a,ha,rfl⟩:=List.mem_map.mp hx
    exact List.mem_map.mpr ⟨a,hm a ha,rfl⟩
  exact ⟨.sy e.symm (fun _ x hx=>hasD_i (allL_i hK x (mem x (e ▸ hx)))) fun h=>h,.sy e (fun _ x hx=>mem x hx) fun h=>h⟩
structure TailV (V : Vx) (w1 w2 : Nat) (nmf : Bool) (sty : Int) (o b c1 c2 : Nat) : Prop where
  h1 : w1 < 5
  h2 : w2 < 5
  lv : LawV V w1 w2
  n1 : NamesV V w1 nmf 0 0
  n2 : NamesV V w2 false 1 3
  d40 : DrawOk V (40,2,bI nmf 1 0,41)
  d41 : DrawOk V (41,3,sty,42)
  ho : o < 4
  d42 : DrawOk V (42,4,(o : Int),43)
  hb : b < 3
  d43 : DrawOk V (43,3,(b : Int),44)
  hc1 : c1 < 3
  d44 : DrawOk V (44,3,(c1 : Int),45)
  hc2 : c2 < 3
  d45 : DrawOk V (45,3,(c2 : Int),46)
  wh : V.bv 47 = less (V.bv (qW1 w1)) (whN (V.bv (qW1 w1)))
section
variable {G : Cx} (ko : KOk3 G) {w1 w2 : Nat} {nmf : Bool} {sty : Int} {o b c1 c2 : Nat} (T : TailV G.V w1 w2 nmf sty o b c1 c2)
include ko T
theorem matchedL_ok (s : Int) : FnT G 200 961 ((e961 w1 w2 nmf).args ++ [.d (.int s)]) (e961 w1 w2 nmf).st (.d (.bool true)) (e961 w1 w2 nmf).out:=by
  have c:=uv_named (nmf:=nmf) T.n1 T.n2
  have hk:=bA_i (allL_i (allL_i kAl_in w1 (mem5 T.h1)) w2 (mem5 T.h2))
  have k1:=keys_cv (i:=2) T.lv.m0 T.lv.l0 T.lv.k2 hk.1
  have k2:=keys_cv (i:=3) T.lv.m1 T.lv.l1 T.lv.k3 hk.2
  refine FnT.conv (matched_ok ko T.h1 T.h2 T.lv T.n1 T.n2 T.ho T.d42 s) ?_ ?_
  · show Conv G.V G.V (K.app (uvS w1 w2 nmf) (K.app (stKeys w1 w2) [.bd 42])) (K.app (uvN _ _ _) _)
    rw [K.app_eq,K.app_eq,K.app_eq]
    exact All2.app (.cons k1.1 (.cons k2.1 (.one .refl))) c.1
  · show Conv G.V G.V (K.app (uvN _ _ _) _) (K.app (uvS w1 w2 nmf) (K.app (stKeys w1 w2) [.bd 43]))
    rw [K.app_eq,K.app_eq,K.app_eq]
    exact All2.app (.cons k1.2 (.cons k2.2 (.one .refl))) c.2
theorem TL_ok : TabOk G (TL w1 w2 nmf sty):=by
  have up : ∀ {a : Nat} {es : List Memo},(∀ e ∈ es,∀ s : Int,FnT G 200 a (e.args ++ [.d (.int s)]) e.st e.val e.out) → CallOk G 201 (a,false,memoS es):=fun h=>.open (FnOk.le (memoS_ok h) (by decide))
  refine tabOf_ok (FactsOk.nil G.V []) (two (.open (FnOk.le (Fdraw_ok ko (two T.d40 (two T.d41 zero))) (by decide))) (two (up (two (matchedL_ok ko T) zero)) (two (up (two (fun s=>unique_ok ko T.hb nmf ⟨T.h1,T.lv.m0,T.lv.l0⟩ T.d43 s) zero)) (two (up ?_) (two (up (two (which_ok ko T.wh) zero)) zero))))) zero zero
  cases hf : isFac w1 with
  | true=>exact zero
  | false=>exact two (fun s=>unsorted_ok ko (Nat.lt_of_le_of_ne (Nat.le_of_lt_succ T.h1) fun e=>by rw [e] at hf; exact nT hf.symm) T.hc1 T.hc2 nmf T.lv.m0 T.lv.l0 T.d44 T.d45 s) zero
end
theorem drawn_congr {bv bv' : Nat → List Int} {al : List D} {n : Nat} : ∀ {q : Nat},(∀ j,j < n → bv (q + j) = bv' (q + j)) → drawn bv al n q = drawn bv' al n q:=by
  induction n with
  | zero=>exact fun _=>rfl
  | succ n ih =>
    intro q h
    show itAt al (drawV (bv q) al.length) :: drawn bv al n (q + 1) = itAt al (drawV (bv' q) al.length) :: drawn bv' al n (q + 1)
    rw [show bv q = bv' q from h 0 (Nat.succ_pos n),ih (q:=q + 1) fun j hj=>by
      have:=h (j + 1) (Nat.succ_lt_succ hj)
      rw [← Nat.add_assoc,Nat.add_right_comm] at this
      exact this]
noncomputable def vLaw (w1 w2 : Nat) (nmf : Bool) (V : Vx) : Vx:={ V with
  val:=fun i=>bI (Nat.beq i 2) ((V.val 0).map (keyD w1 (asT w1 w2))) (bI (Nat.beq i 3) ((V.val 1).map (keyD w2 (asT w1 w2))) (bI (Nat.beq i 4) (sem 1 ((V.val 0).map (keyD w1 (asT w1 w2))) ((V.val 1).map (keyD w2 (asT w1 w2)))) (V.val i)))
  bv := fun q=>bI (Nat.beq q 47) (less (V.bv (qW1 w1)) (whN (V.bv (qW1 w1)))) (V.bv q)
  tm:=fun k=>(K.nth [.di (tmE (knd w1) (isFac w1 || nmf)),itemsO w1 0,nmsO w1,.di (tmE (knd w2) (isFac w2 || false)),itemsO w2 1] k).getD (nmsO w2) }
section
variable {w1 w2 : Nat} {nmf : Bool} {V : Vx}
theorem vLaw_bv {q : Nat} (h : Nat.beq q 47 = false) : (vLaw w1 w2 nmf V).bv q = V.bv q:=by
  show bI (Nat.beq q 47) _ _ = _
  rw [h]
  rfl
theorem vLaw_val {i : Nat} (h : 4 < i) : (vLaw w1 w2 nmf V).val i = V.val i:=by
  show bI (Nat.beq i 2) _ (bI (Nat.beq i 3) _ (bI (Nat.beq i 4) _ _)) = _
  rw [beq_ne (Nat.lt_trans (by decide) h),beq_ne (Nat.lt_trans (by decide) h),beq_ne h]
  rfl
theorem bne_lt {q k : Nat} (h : q < k) : Nat.beq q k = false:=by
  cases e : Nat.beq q k with
  | false=>rfl
  | true=>exact absurd (Nat.eq_of_beq_eq_true e) (Nat.ne_of_lt h)
theorem DrawOk.vLaw {q q' : Nat} {m v : Int} (d : DrawOk V (q,m,v,q')) (h : q < 47) (h' : q' < 47) : DrawOk (vLaw w1 w2 nmf V) (q,m,v,q'):=by
  obtain ⟨a,b,c⟩:=d
  refine ⟨a,?_,?_⟩
  · show (Mine.vLaw w1 w2 nmf V).bv q' = ((Mine.vLaw w1 w2 nmf V).bv q).dropLast
    rw [vLaw_bv (bne_lt h),vLaw_bv (bne_lt h')]
    exact b
  · show v = drawV ((Mine.vLaw w1 w2 nmf V).bv q) m
    rw [vLaw_bv (bne_lt h)]
    exact c
theorem bv_lt {q : Nat} (h : q < 47) : (vLaw w1 w2 nmf V).bv q = V.bv q:=vLaw_bv (bne_lt h)
theorem frontL {xs : List Int} {k1 n1 k2 n2 : Nat} (f : FrontV V xs k1 n1 k2 n2) : FrontV (vLaw w1 w2 nmf V) xs k1 n1 k2 n2:=by
  have at' : ∀ {a k b : Nat},k < b → a + b ≤ 47 → a + k < 47:=fun h1 h2=>Nat.lt_of_lt_of_le (Nat.add_lt_add_left h1 _) h2
  have d10 : ∀ {k},k < 7 → (vLaw w1 w2 nmf V).bv (10 + k) = V.bv (10 + k):=fun h=>bv_lt (at' h (by decide))
  have d30 : ∀ {k},k < 7 → (vLaw w1 w2 nmf V).bv (30 + k) = V.bv (30 + k):=fun h=>bv_lt (at' h (by decide))
  have hb : BeadsV (vLaw w1 w2 nmf V) xs:=by
    obtain ⟨a1,a2,a3,a4,a5⟩:=f.beads
    exact ⟨a1,a2,a3,⟨a4.1,fun b hb=>(vLaw_val (Nat.lt_of_lt_of_le (by decide) (Nat.le_add_right 200 _))).trans (a4.2 b hb)⟩,(bv_lt (by decide)).trans a5⟩
  refine ⟨hb,f.hw1,f.hn1,f.hw2,f.hn2,f.d1.vLaw (by decide) (by decide),f.d2.vLaw (by decide) (by decide),fun k hk=>?_,?_,?_,f.d3.vLaw (by decide) (by decide),f.d4.vLaw (by decide) (by decide),fun k hk=>?_,?_,?_⟩
  · rw [d10 hk,Nat.add_assoc,bv_lt (at' (Nat.succ_lt_succ hk) (by decide))]
    exact f.b1 k hk
  · rw [bv_lt (by decide),d10 (Nat.lt_succ_of_lt f.hn1)]
    exact f.e1
  · exact f.v0.trans (drawn_congr fun j hj=>(d10 (Nat.lt_trans hj (Nat.lt_succ_of_lt f.hn1))).symm)
  · rw [d30 hk,Nat.add_assoc,bv_lt (at' (Nat.succ_lt_succ hk) (by decide))]
    exact f.b2 k hk
  · rw [bv_lt (by decide),d30 (Nat.lt_succ_of_lt f.hn2)]
    exact f.e2
  · exact f.v1.trans (drawn_congr fun j hj=>(d30 (Nat.lt_trans hj (Nat.lt_succ_of_lt f.hn2))).symm)
end
theorem tailL {V : Vx} {xs : List Int} {w1 n1 w2 n2 : Nat} (f : FrontV V xs w1 n1 w2 n2) (hbv : ∀ k,k < 6 → V.bv (40 + k + 1) = (V.bv (40 + k)).dropLast) {nmf : Bool} (hn : decide (drawV (V.bv 40) 2 = 1) = nmf) :
    TailV (vLaw w1 w2 nmf V) w1 w2 nmf (drawV (V.bv 41) 3) (drawV (V.bv 42) 4).toNat (drawV (V.bv 43) 3).toNat (drawV (V.bv 44) 3).toNat (drawV (V.bv 45) 3).toNat:=by
  have dr : ∀ {k : Nat} {m v : Int},k < 6 → 0 < m → v = drawV (V.bv (40 + k)) m → DrawOk (vLaw w1 w2 nmf V) (40 + k,m,v,40 + k + 1):=fun {k m v} hk hm hv=>DrawOk.vLaw ⟨hm,hbv k hk,hv⟩ (Nat.lt_of_lt_of_le (Nat.add_lt_add_left hk 40) (by decide)) (Nat.lt_of_lt_of_le (Nat.add_lt_add_left (Nat.succ_lt_succ hk) 40) (by decide))
  have t:=fun q m hm=>toNat_draw (xs:=V.bv q) (m:=m) hm
  have m0 : ∀ a ∈ V.val 0,a ∈ mnu w1:=fun a ha=>drawn_mem (mnu_pos f.hw1).1 _ _ _ (f.v0 ▸ ha)
  have m1 : ∀ a ∈ V.val 1,a ∈ mnu w2:=fun a ha=>drawn_mem (mnu_pos f.hw2).1 _ _ _ (f.v1 ▸ ha)
  have l0 : (V.val 0).length ≤ 5:=by rw [f.v0,drawn_len]; exact Nat.le_of_lt_succ f.hn1
  have l1 : (V.val 1).length ≤ 5:=by rw [f.v1,drawn_len]; exact Nat.le_of_lt_succ f.hn2
  have n40 : (bI nmf 1 0 : Int) = drawV (V.bv 40) 2:=by
    have h : (((drawV (V.bv 40) 2).toNat : Nat) : Int) = drawV (V.bv 40) 2 ∧ (drawV (V.bv 40) 2).toNat < 2:=t 40 2 (by decide)
    clear dr
    generalize drawV (V.bv 40) 2 = d at h hn
    generalize d.toNat = z at h
    obtain ⟨rfl,hz⟩:=h
    subst hn
    match z,hz with
    | 0,_=>rfl
    | 1,_=>rfl
  have q1 : Nat.beq (qW1 w1) 47 = false:=by unfold qW1; cases isFac w1 <;> rfl
  exact ⟨f.hw1,f.hw2,⟨rfl,rfl,rfl,m0,m1,l0,l1⟩,⟨rfl,rfl,rfl⟩,⟨rfl,rfl,rfl⟩,dr (k:=0) (by decide) (by decide) n40,dr (k:=1) (by decide) (by decide) rfl,(t 42 4 (by decide)).2,dr (k:=2) (by decide) (by decide) (t 42 4 (by decide)).1,
    (t 43 3 (by decide)).2,dr (k:=3) (by decide) (by decide) (t 43 3 (by decide)).1,(t 44 3 (by decide)).2,dr (k:=4) (by decide) (by decide) (t 44 3 (by decide)).1,(t 45 3 (by decide)).2,dr (k:=5) (by decide) (by decide) (t 45 3 (by decide)).1,by rw [vLaw_bv q1]; rfl⟩
structure Fl (B : Heap) (l : List Env) (e : Addr) (cls : Value) (dd : Option Addr) (fl : Value) (h : Heap) : Prop where
  stays : B.StaysIn h
  new : B.get? e = none
  frames : h.FunFrames B l
  exc : ∃ oe vs T oT ts,h.get? e = some oe ∧ oe.cls = cls ∧ oe.dict = dd ∧ oe.data = .fields vs ∧ vs[1]? = some (.ref T) ∧ B.get? T = none ∧ T ≠ e ∧ h.get? T = some oT ∧ oT.data = .fields ts ∧ ts[3]? = some fl
theorem Fl.tail {B h : Heap} {env : Env} {l : List Env} {e : Addr} {cls fl : Value} {dd : Option Addr} (x : Fl B (env :: l) e cls dd fl h) : Fl B l e cls dd fl h:=⟨x.stays,x.new,x.frames.2.2,x.exc⟩
section
variable {M : Model} {A : Around} {E : Value → Shared → Prop} {s : Shared} {B : Heap} {env : Env} {outer : List Env} {L e : Addr}
theorem mapF_data {o : Obj} {vs : Array Value} (h : o.data = .fields vs) (f : Array Value → Array Value) : (o.mapFields f).data = .fields (f vs):=Obj.data_mapFields h f
theorem mapF_dict {o : Obj} {vs : Array Value} (h : o.data = .fields vs) (f : Array Value → Array Value) : (o.mapFields f).dict = o.dict:=by
  obtain ⟨c,d,dt,sl⟩:=o
  dsimp only at h
  subst h
  rfl
theorem put_entry {oe : Obj} {vs : Array Value} {head : Value} {hadNext : Bool} {Q : Unit → Shared → Prop} (hfr : A.frames = some (env :: outer)) (hl : s.heap.FunFrames B (env :: outer)) (hf : env.frame = some L) (kb : B.StaysIn s.heap) (en : B.get? e = none)
    (he : s.heap.get? e = some oe) (hd : oe.data = .fields vs) (hz : 1 < vs.size) (k : ∀ h',Fl B (env :: outer) e oe.cls oe.dict (rawInt L) h' → s.heap.UpToSlots h' → Q () { s with heap:=h' }) :
    wpAny M A (do setField (.ref e) 1 (← EntryCells.newEntry head (← frameOf env) .none (rawInt L) .none (← entryPlaceOf L hadNext))) Q E s:=by
  have ne : e ∉ (env :: outer).filterMap (·.frame):=fun hm=>by
    obtain ⟨_,o,ho,hnf⟩:=hl.mem hm
    rw [he] at ho
    obtain rfl:=Option.some.inj ho
    exact hnf vs hd
  refine wpAny_bind (wpAny_frameOf_fun hfr hl hf fun h₁ hs=>?_)
  refine wpAny_bind (wpAny_entryPlaceOf fun pl hpl=>?_)
  unfold EntryCells.newEntry newFields
  refine wpAny_bind (wpAny_newObj_type ?_ (hpl.sizeOk5 _ _ _ _ _))
  generalize hT : ({ cls:=.type "traceback",dict:=none,data:=.fields ([head,.ref L,.none,rawInt L,.none] ++ (if pl.isEmpty then List.replicate 6 Value.none else pl)).toArray } : Obj) = oT
  have he₁ : h₁.get? e = some oe:=(hs.2.1 e ne).trans he
  have kb₁ : B.StaysIn h₁:=fun b o hb=>(hs.2.1 b fun hm=>by rw [(hl.mem hm).1] at hb; exact nS hb).trans (kb b o hb)
  have he₂:=Heap.get?_push_of_some oT he₁
  have keep : ∀ b o,b ≠ e → h₁.get? b = some o → ((h₁.push oT).update e (Obj.mapFields (·.setIfInBounds 1 (Value.ref h₁.objs.size)))).get? b = some o:=fun b o hb ho=>by
    rw [Heap.get?_update_other _ _ (Ne.symm hb)]
    exact Heap.get?_push_of_some _ ho
  have noF : ∀ b o,s.heap.get? b = some o → (∀ vs,o.data ≠ .fields vs) → b ≠ e:=fun b o hb hn q=>by
    rw [q,he] at hb
    obtain rfl:=Option.some.inj hb
    exact hn vs hd
  refine wpAny_setField he₂ hd hz (k _ ?_ ?_)
  · have hTe : h₁.objs.size ≠ e:=Nat.ne_of_gt (Heap.lt_size he₁)
    have hd₃:=mapF_data hd (·.setIfInBounds 1 (Value.ref h₁.objs.size))
    refine ⟨fun b o hb=>keep b o (fun q=>by rw [q,en] at hb; exact nS hb) (kb₁ b o hb),en,hl.of_keeps fun b o hb hn=>?_,_,_,h₁.objs.size,oT,_,Heap.get?_update_self _ he₂ (Obj.isFreed_of_fields hd₃),Obj.cls_mapFields _ _,mapF_dict hd _,hd₃,by simp [hz],kb₁.fresh,hTe,?_,by rw [← hT],?_⟩
    · obtain ⟨sl,h2⟩:=hs.2.2 b o hb
      exact ⟨_,keep b _ (noF b o hb hn) h2,rfl⟩
    · rw [Heap.get?_update_other _ _ (Ne.symm hTe)]
      exact Heap.get?_push_size h₁ (by rw [← hT]; rfl)
    · rcases hpl with rfl | ⟨_,_,_,_,_,_,_,rfl⟩ <;> simp
  · intro b o hb hn
    obtain ⟨sl,h2⟩:=hs.2.2 b o hb
    exact ⟨sl,keep b _ (noF b o hb hn) h2⟩
theorem note_first {oe : Obj} {vs : Array Value} {Q : Unit → Shared → Prop} (hfr : A.frames = some (env :: outer)) (hl : s.heap.FunFrames B (env :: outer)) (hf : env.frame = some L) (kb : B.StaysIn s.heap) (en : B.get? e = none)
    (he : s.heap.get? e = some oe) (hd : oe.data = .fields vs) (h1 : vs[1]? = some .none) (k : ∀ h',Fl B (env :: outer) e oe.cls oe.dict (rawInt L) h' → s.heap.UpToSlots h' → Q () { s with heap:=h' }) :
    wpAny M A (noteFrame (.ref e) env) Q E s:=by
  unfold noteFrame
  simp only [hf]
  refine wpAny_bind (wpAny_field he hd h1 ?_)
  rw [if_neg (by decide)]
  exact put_entry hfr hl hf kb en he hd (Array.getElem?_eq_some_iff.mp h1).1 k
theorem Fl.set {h : Heap} {l : List Env} {cls fl : Value} {dd : Option Addr} (x : Fl B l e cls dd fl h) : ∃ T,(∀ b,b ≠ T → (h.update T (Obj.mapFields (·.setIfInBounds 3 .none))).get? b = h.get? b) ∧ Fl B l e cls dd .none (h.update T (Obj.mapFields (·.setIfInBounds 3 .none))) ∧ h.UpToSlots (h.update T (Obj.mapFields (·.setIfInBounds 3 .none))) ∧
    ∃ oe vs oT ts,h.get? e = some oe ∧ oe.data = .fields vs ∧ vs[1]? = some (.ref T) ∧ h.get? T = some oT ∧ oT.data = .fields ts ∧ ts[3]? = some fl:=by
  obtain ⟨kb,en,hl,oe,vs,T,oT,ts,he,hc,hdd,hd,h1,nT,Te,hT,hdT,h3⟩:=x
  have other : ∀ b,b ≠ T → (h.update T (Obj.mapFields (·.setIfInBounds 3 .none))).get? b = h.get? b:=fun b hb=>Heap.get?_update_other _ _ (Ne.symm hb)
  have noF : ∀ b o,h.get? b = some o → (∀ vs,o.data ≠ .fields vs) → b ≠ T:=fun b o hb hn q=>by
    rw [q,hT] at hb
    obtain rfl:=Option.some.inj hb
    exact hn ts hdT
  have hdT':=mapF_data hdT (·.setIfInBounds 3 .none)
  refine ⟨T,other,⟨fun b o hb=>(other b fun q=>by rw [q,nT] at hb; exact nS hb).trans (kb b o hb),en,hl.of_keeps fun b o hb hn=>⟨o,(other b (noF b o hb hn)).trans hb,rfl⟩,oe,vs,T,_,_,(other e (Ne.symm Te)).trans he,hc,hdd,hd,h1,nT,Te,Heap.get?_update_self _ hT (Obj.isFreed_of_fields hdT'),hdT',?_⟩,
    fun b o hb hn=>⟨o.slots,(other b (noF b o hb hn)).trans hb⟩,oe,vs,oT,ts,he,hd,h1,hT,hdT,h3⟩
  have:=(Array.getElem?_eq_some_iff.mp h3).1
  simp [this]
theorem flight_none {l : List Env} {cls fl : Value} {dd : Option Addr} {Q : Unit → Shared → Prop} (x : Fl B l e cls dd fl s.heap) (k : ∀ h',Fl B l e cls dd .none h' → s.heap.UpToSlots h' → Q () { s with heap:=h' }) : wpAny M A (setFlight (.ref e) none) Q E s:=by
  obtain ⟨T,other,y,us,oe,vs,oT,ts,he,hd,h1,hT,hdT,h3⟩:=x.set
  unfold setFlight
  refine wpAny_bind (wpAny_field he hd h1 ?_)
  rw [if_pos (show (Value.ref T != Value.none) = true from by simp)]
  exact wpAny_setField hT hdT (Array.getElem?_eq_some_iff.mp h3).1 (k _ y us)
theorem note_next {cls : Value} {dd : Option Addr} {Q : Unit → Shared → Prop} (hfr : A.frames = some (env :: outer)) (hf : env.frame = some L) (x : Fl B (env :: outer) e cls dd .none s.heap)
    (k : ∀ h',Fl B (env :: outer) e cls dd (rawInt L) h' → s.heap.UpToSlots h' → Q () { s with heap:=h' }) : wpAny M A (noteFrame (.ref e) env) Q E s:=by
  obtain ⟨T,other,y,us,oe,vs,oT,ts,he,hd,h1,hT,hdT,h3⟩:=x.set
  unfold noteFrame
  simp only [hf]
  refine wpAny_bind (wpAny_field he hd h1 ?_)
  rw [if_pos (show (Value.ref T != Value.none) = true from by simp)]
  refine wpAny_bind (wpAny_field hT hdT h3 ?_)
  rw [if_neg (show ¬ ((Value.none == rawInt L) = true) from by simp [rawInt])]
  refine wpAny_bind (wpAny_setField hT hdT (Array.getElem?_eq_some_iff.mp h3).1 ?_)
  obtain ⟨kb,en,hl,oe',vs',T',oT',ts',he',hc,hdd,hd',h1',-⟩:=y
  subst hc hdd
  exact put_entry (s:={ s with heap:=_ }) hfr hl hf kb en he' hd' (Array.getElem?_eq_some_iff.mp h1').1 fun h' f u=>k h' f (us.trans u)
theorem leaving_first {oe : Obj} {vs : Array Value} {Q : Unit → Shared → Prop} (hfr : A.frames = some (env :: outer)) (hl : s.heap.FunFrames B (env :: outer)) (hf : env.frame = some L) (kb : B.StaysIn s.heap) (en : B.get? e = none)
    (he : s.heap.get? e = some oe) (hd : oe.data = .fields vs) (h1 : vs[1]? = some .none) (k : ∀ h',Fl B outer e oe.cls oe.dict .none h' → s.heap.UpToSlots h' → Q () { s with heap:=h' }) : wpAny M A (leaving env (.ref e)) Q E s :=
  wpAny_bind (note_first hfr hl hf kb en he hd h1 fun h₁ f₁ u₁=>flight_none (s:={ s with heap:=h₁ }) f₁ fun h₂ f₂ u₂=>k h₂ f₂.tail (u₁.trans u₂))
theorem leaving_next {cls : Value} {dd : Option Addr} {Q : Unit → Shared → Prop} (hfr : A.frames = some (env :: outer)) (hf : env.frame = some L) (x : Fl B (env :: outer) e cls dd .none s.heap)
    (k : ∀ h',Fl B outer e cls dd .none h' → s.heap.UpToSlots h' → Q () { s with heap:=h' }) : wpAny M A (leaving env (.ref e)) Q E s :=
  wpAny_bind (note_next hfr hf x fun h₁ f₁ u₁=>flight_none (s:={ s with heap:=h₁ }) f₁ fun h₂ f₂ u₂=>k h₂ f₂.tail (u₁.trans u₂))
end
theorem ref_isA (P : Params) {b : Value} (h : mroR.contains b = true) : mroIn (KF P) 51 b = some true:=by
  unfold mroIn
  rw [((kg_ok P).2.2.2.1),Option.bind_some,((kg_ok P).2.2.2.2.1),h]
  rfl
section
variable {prog : Program} {w : World} {P : Params} {A : Around} {E : Value → Shared → Prop} {h : Heap} {g : Array GenState} {d : Drawn} {t : Nat} {os : OsState}
theorem hasE : bmE.contains (.type "Exception") = true:=by decide +kernel
theorem typeCall_ref {rest : List Value} {oI : Obj} {Q : Fin → Shared → Prop} (X : (KF P).In h) (hI : h.get? 48 = some oI) (hf : oI.cls = .type "function") (hr : rest.length ≤ sizeLine)
    (k : ∀ h' e,Heap.MadeExcOf h h' e (.ref 51) rest → wpAny (model prog w) A (call (.ref 48) (.ref e :: rest)) (fun r s'=>r = .none ∧ Q (.done (.ret (.ref e))) s') E ⟨h',g,d,t,os⟩) :
    wpAny (model prog w) A (Builtin.«type.__call__» ⟨.ref 51 :: rest,[]⟩) Q E ⟨h,g,d,t,os⟩:=by
  have F:=PySem.F.excBase_Exception
  have hC:=X _ _ ((kg_ok P).2.2.1)
  have T:=tail_of_in X ((kg_ok P).2.2.2.2.2.1)
  repeat (first | with_reducible refine wpAny_loadPart_at hC ?_ | with_reducible refine wpAny_madeBy_exc hC ?_ | wp_step)
  refine codeAny_call_builtin_code (Code.quiet_builtin _ F.quiet) (wpAny_check_new_subU F hasE T hC ?_)
  refine codeAny_exc_new_subU F hasE F T hC ?_ hr
  show wpAny _ _ _ _ _ _
  generalize h1 : (h.push { cls:=.type "tuple",data:=.seq rest.toArray }).push { cls:=.ref 51,data:=.fields #[.ref h.objs.size,.none,.none,.none,.bool false,.none] } = h₁
  have keep : ∀ b o,h.get? b = some o → h₁.get? b = some o:=fun b o e=>h1 ▸ Heap.get?_push_of_some _ (Heap.get?_push_of_some _ e)
  have hget : h₁.get? (h.objs.size + 1) = some { cls:=.ref 51,data:=.fields #[.ref h.objs.size,.none,.none,.none,.bool false,.none] }:=by rw [← h1]; heap_get
  have htup : h₁.get? h.objs.size = some { cls:=.type "tuple",data:=.seq rest.toArray }:=by rw [← h1]; heap_get
  have hC₁:=keep _ _ hC
  have L:=looks_findIn (M:=model prog w) (fun a o e=>keep a o (X a o e)) ((kg_ok P).2.2.2.2.2.2.1)
  have hcC : (Value.ref 51 :: mroR.tail).contains (.ref 51) = true:=by decide +kernel
  unfold isInstance
  repeat (first | with_reducible refine wpAny_loadPart_at hget ?_ | (with_reducible refine wpAny_isSubtype_exc hC₁ ?_; rw [hcC]) | wp_step)
  show wpAny _ _ (typeLookup (.ref 51) _) _ _ _
  refine L.at (wpAny_holding (wpAny_bind ?_))
  unfold bindSpecial
  refine wpAny_bind (wpAny_typeOf (T:="function") ⟨_,keep _ _ hI,hf⟩ ?_)
  rw [if_pos (by decide)]
  refine wpAny_pure (wpAny_bind (wpAny_mono (k _ (h.objs.size + 1) ⟨keep,Heap.get?_none_of_le (Nat.le_succ _),h.objs.size,hget,Heap.get?_none_of_le (Nat.le_refl _),htup⟩) (fun r s' hr=>?_) fun _ _ x=>x))
  obtain ⟨rfl,hQ⟩:=hr
  wp_walk
  exact hQ
theorem call_ref {rest : List Value} {oI : Obj} {Q : Value → Shared → Prop} (X : (KF P).In h) (hI : h.get? 48 = some oI) (hf : oI.cls = .type "function") (hr : rest.length ≤ sizeLine)
    (k : ∀ h' e,Heap.MadeExcOf h h' e (.ref 51) rest → wpAny (model prog w) (A.under (.builtin "type.__call__" ⟨.ref 51 :: rest,[]⟩)) (call (.ref 48) (.ref e :: rest)) (fun r s'=>r = .none ∧ Q (.ref e) s') E ⟨h',g,d,t,os⟩) :
    wpAny (model prog w) A (call (.ref 51) rest) Q E ⟨h,g,d,t,os⟩:=by
  have f1:=tc_lookup
  have f2:=tc_bind (.ref 51)
  have hC:=X _ _ ((kg_ok P).2.2.1)
  have hT : (⟨h,g,d,t,os⟩ : Shared).TypeIs (.ref 51) "type":=⟨_,hC,rfl⟩
  refine wpAny_call (codeAny_of_tree ?_)
  show wpAny _ _ (callAny (.ref 51) _) _ _ _
  repeat (any_goals (first | assumption | with_reducible refine wpAny_loadPart_at hC ?_ | wp_step))
  refine ⟨rfl,?_⟩
  refine codeAny_call_builtin_at (Code.quiet_builtin _ (by decide +kernel)) entry_typeCall (wpAny_check_type_call_sub hC (typeCall_ref X hI hf hr fun h' e hm=>?_))
  exact k h' e hm
theorem raise_ref {M : Model} {env : Env} {s : Shared} {x : Sem Value} {Q : Flow → Shared → Prop} (hh : A.handled = none)
    (k : wpAny M A x (fun v s₁=>∃ e oe vs,v = .ref e ∧ (KF P).In s₁.heap ∧ s₁.heap.get? e = some oe ∧ oe.cls = .ref 51 ∧ oe.data = .fields vs ∧ vs[1]? = some .none ∧ E (.ref e) s₁) E s) :
    wpAny M A (raiseStmt env (some x) none) Q E s:=by
  unfold raiseStmt
  refine wpAny_bind (wpAny_mono k (fun v s₁ h₁=>?_) fun _ _ x=>x)
  obtain ⟨e,oe,vs,rfl,X,he,hc,hd,h1,hE⟩:=h₁
  have hC:=X _ _ ((kg_ok P).2.2.1)
  have hcB : (Value.ref 51 :: mroR.tail).contains (.type "BaseException") = true:=by decide +kernel
  obtain ⟨hp,g,d,tk,os⟩:=s₁
  have hf : ∀ {Q : Value → Shared → Prop} {E : Value → Shared → Prop},Q .none ⟨hp,g,d,tk,os⟩ → wpAny M A (field (.ref e) 1) Q E ⟨hp,g,d,tk,os⟩:=fun h=>wpAny_field he hd h1 h
  repeat (first | (with_reducible refine wpAny_loadPart_at he ?_; try rw [hc]) | with_reducible refine wpAny_loadPart_at hC ?_ | (with_reducible refine wpAny_isSubtype_exc hC ?_; rw [hcB]) | with_reducible refine hf ?_ | wp_step)
  exact wpAny_raiseNew_none hh hE
end
end Mine
namespace Mine
open PySem PySem.W PySem.Calls PyProof.Rows Builtin Builtin.ObjectAttr
section
variable {prog : Program} {w : World} {A : Around} {E : Value → Shared → Prop} {P : Params} {x : Addr} {s : Shared} {ox : Obj}
theorem osa_ref {tk : Tok} {v : Value} {R : Result → Shared → Prop} (X : (KF P).In s.heap) (hx : s.heap.get? x = some ox) (hc : ox.cls = .ref 51) (hd : ox.dict = none) {vs : Array Value} (hf : ox.data = .fields vs)
    (k : ∀ h' tk' D oD,(∀ b o,b ≠ x → s.heap.get? b = some o → h'.get? b = some o) → h'.get? x = some { ox with dict:=some D } → s.heap.get? D = none → D ≠ x → h'.get? D = some oD → lookIn msgN oD = some (some v) → R (.ok (.ret .none)) { s with heap:=h',toks:=tk' }) :
    codeAny (model prog w) A (.call (.builtin "object.__setattr__") ⟨[.ref x,.str msgN tk,v],[]⟩) R s:=by
  have SF:=PySem.F.store_object
  have I : InstAt s.heap x ox 51 none:=⟨hx,hc,by unfold notCls; rw [hf],by rw [hd]; trivial⟩
  have sub : Looks (model prog w) s.heap (isInstance (.ref x) (.type "object")) true:=I.type.andThen (looks_mroIn X (ref_isA P (by decide +kernel)))
  refine codeAny_call_builtin SF.slot.plain SF.entry (@check_slot (model prog w) _ _ s "object.__setattr__" "object" "__setattr__" (.ref x) [.str msgN tk,v] [] _ SF.kind SF.split sub (SF.args (.ref x) (.str msgN tk) v) ?_)
  have Lm : Looks (model prog w) s.heap (mroOf (.ref 51)) mroR:=((kg_ok P).2.2.2.2.1) ▸ (looks_clsIn X ((kg_ok P).2.2.2.1)).andThen .now
  rw [osa_eq,refuse_eq]
  refine wpAny_bind (wpAny_bind (I.type.here (wpAny_bind (Lm.here ?_))))
  unfold mroR
  rw [refuseLoop_ref,refuseLoop_ref,PySem.F.store_Exception.passes]
  refine wpAny_pure (wpAny_bind (I.type.here (wpAny_bind ((looks_findIn X ((kg_ok P).2.2.2.2.2.2.2.2.2.2.2.1)).here (wpAny_bind (wpAny_pure ?_))))))
  obtain ⟨cd',hcd',hdi⟩:=any_some ((kg_ok P).2.2.2.2.2.2.2.1)
  obtain ⟨h,g,d,t,os⟩:=s
  obtain ⟨oc,odi,oda,osl⟩:=ox
  dsimp only at hc hd hf
  subst hc hd hf
  show wpAny _ _ (storeInOwnDict (.ref x) (.ref 51) (.str msgN tk) msgN v _) _ _ _
  refine wpAny_bind (wpAny_pure (wpAny_bind (wpAny_bind (wpAny_loadPart hx (wpAny_bind ((looks_clsIn X hcd').here ?_))))))
  rw [hdi]
  have hx₁:=Heap.get?_push_of_some ({ cls:=.type "dict",data:=.dict #[] } : Obj) hx
  have hxs : x ≠ h.objs.size:=Nat.ne_of_lt (Heap.lt_size hx)
  refine wpAny_bind (wpAny_alloc' ?_)
  refine wpAny_bind (wpAny_update' hx₁ ?_)
  refine wpAny_pure ?_
  generalize hh : (h.push { cls:=.type "dict",data:=.dict #[] }).update x (fun o=>{ cls:=o.cls,dict:=some h.objs.size,data:=o.data,slots:=o.slots }) = h₁
  have hgd : h₁.get? h.objs.size = some { cls:=.type "dict",data:=.dict #[] }:=by
    rw [← hh]
    exact (Heap.get?_update_ne _ _ _ _ hxs.symm).trans (Heap.get?_push_at rfl rfl)
  have hgx : h₁.get? x = some ⟨.ref 51,some h.objs.size,.fields vs,osl⟩:=by rw [← hh]; exact Heap.get?_update_self _ hx₁ rfl
  have keep : ∀ b o,b ≠ x → h.get? b = some o → h₁.get? b = some o:=fun b o hb ho=>by
    rw [← hh]
    exact (Heap.get?_update_ne _ _ _ _ hb).trans (Heap.get?_push_of_some _ ho)
  have hnd : h₁.Ns h.objs.size (fun _=>none):=⟨_,#[],_,hgd,rfl,fun e he=>absurd he (by simp),fun _=>rfl⟩
  show wpAny _ _ (storeInDict h.objs.size (.str msgN tk) msgN v) _ _ _
  unfold storeInDict newKeyGuard
  refine wpAny_bind (wpAny_pure (wpAny_bind (wpAny_nsSet1 (Heap.Ns1.of_empty hnd) fun h' hn' hs=>?_)))
  obtain ⟨oD,esD,epD,hoD,hdD,hcD⟩:=hn'.count (Within.cons msgN v Within.nil)
  refine wpAny_bind (wpAny_lookBehind hoD (by rw [hdD]; exact pastItsLine_dict (Nat.le_trans hcD (by rw [List.length_cons,List.length_nil,sizeLine_eq]; omega))) ?_)
  refine wpAny_pure (k h' _ h.objs.size oD (fun b o hb ho=>(hs.2 b (Nat.ne_of_lt (Heap.lt_size ho))).trans (keep b o hb ho)) ((hs.2 x hxs).trans hgx) (Heap.get?_none_of_le (Nat.le_refl _)) (Ne.symm hxs) hoD ?_)
  obtain ⟨o',es,ep,e1,e2,e3,eu,e4⟩:=hn'
  rw [hoD] at e1
  obtain rfl:=Option.some.inj e1
  have:=e4 msgN
  dsimp only at this
  rw [if_pos rfl] at this
  unfold lookIn
  rw [e2]
  dsimp only
  unfold nsFind findBy at this
  rw [← Array.find?_toList] at this
  obtain ⟨en,he,hv⟩:=Option.map_eq_some_iff.mp this
  rw [he,← hv]
theorem set_ref {v : Value} {Q : Unit → Shared → Prop} (X : (KF P).In s.heap) (hx : s.heap.get? x = some ox) (hc : ox.cls = .ref 51) (hd : ox.dict = none) {vs : Array Value} (hf : ox.data = .fields vs)
    (k : ∀ h' tk' D oD,(∀ b o,b ≠ x → s.heap.get? b = some o → h'.get? b = some o) → h'.get? x = some { ox with dict:=some D } → s.heap.get? D = none → D ≠ x → h'.get? D = some oD → lookIn msgN oD = some (some v) → Q () { s with heap:=h',toks:=tk' }) :
    wpAny (model prog w) A (setAttr (.ref x) msgN v) Q E s:=by
  have I : InstAt s.heap x ox 51 none:=⟨hx,hc,by unfold notCls; rw [hf],by rw [hd]; trivial⟩
  exact set_plain X I ((kg_ok P).2.2.2.2.2.2.2.2.1) (osa_ref (s:={ s with toks:=s.toks + 1 }) X hx hc hd hf k)
theorem get_ref {D : Addr} {oD : Obj} {v : Value} {e : Bool} {Q : Value → Shared → Prop} (X : (KF P).In s.heap) (hx : s.heap.get? x = some ox) (hc : ox.cls = .ref 51) {vs : Array Value} (hf : ox.data = .fields vs) (hd : ox.dict = some D) (hD : s.heap.get? D = some oD)
    (hl : lookIn msgN oD = some (some v)) (hv : handedIn v = true) (k : Q v { s with toks:=s.toks + 1 }) : wpAny (model prog w) A (getAttr (.ref x) msgN e) Q E s:=by
  have I : InstAt s.heap x ox 51 (some oD):=⟨hx,hc,by unfold notCls; rw [hf],by rw [hd]; exact hD⟩
  obtain ⟨h,g,d,t,os⟩:=s
  have L0:=I.type (M:=model prog w)
  have L1:=looks_findIn (M:=model prog w) X ((kg_ok P).2.2.2.2.2.2.2.2.2.1)
  have L2:=looks_findIn (M:=model prog w) X ((kg_ok P).2.2.2.2.2.2.2.2.2.2.1)
  have L3:=looks_find (M:=model prog w) X I (findObj_own ((kg_ok P).2.2.2.2.2.2.2.1) ((kg_ok P).2.2.2.2.2.2.2.2.2.2.2.1) rfl hl)
  have FB:=PySem.F.attr_Exception
  have sub : Looks (model prog w) h (isInstance (.ref x) (.type "BaseException")) true:=I.type.andThen (looks_mroIn X (ref_isA P (by decide +kernel)))
  have hk : builtinKind "BaseException.__getattribute__" = some .slot:=by decide +kernel
  have hsplit : splitId "BaseException.__getattribute__" = some ("BaseException","__getattribute__"):=by decide +kernel
  have hx2 : (Value.builtin "BaseException.__getattribute__" == Value.builtin "object.__getattribute__") = false:=by decide +kernel
  unfold getAttr getAttrBy
  refine wpAny_bind (wpAny_mkText (wpAny_holding (wpAny_bind (L0.at (wpAny_bind (L1.at ?_))))))
  dsimp only
  rw [hx2,Bool.and_false,if_neg (by decide)]
  unfold getAttrByItsOwn hookBefore
  rw [show onTheHeap (.ref 51) = true from rfl,if_pos rfl]
  refine wpAny_bind (L2.at (wpAny_bind (wpAny_attempt (wpAny_holding ?_))))
  unfold callGetattribute
  rw [show onTheHeap (Value.builtin "BaseException.__getattribute__") = false from rfl,Bool.and_false,if_neg (by decide)]
  unfold boundAndCalled
  rw [FB.ga.bind]
  refine wpAny_bind (wpAny_pure (wpAny_call ?_))
  refine codeAny_call_builtin FB.ga.plain PySem.F.entry_bexc_ga (@check_slot (model prog w) _ _ ⟨h,g,d,t + 1,os⟩ "BaseException.__getattribute__" "BaseException" "__getattribute__" (.ref x) [.str msgN t] [] _ hk hsplit sub (PySem.F.args_bexc_ga (.ref x) (.str msgN t)) ?_)
  unfold Builtin.«object.__getattribute__»
  refine wpAny_bind (wpAny_pure (wpAny_bind (wpAny_pure (wpAny_bind (L0.at (wpAny_bind (L3.at (wpAny_pure ?_))))))))
  show wpAny _ _ (handedOut v) _ _ _
  rw [handedOut_of hv]
  exact wpAny_pure k
end
end Mine
namespace Mine
open PySem PySem.W PySem.Calls PyProof.Rows
noncomputable def selfN : Str:=Str.ofString "self"
noncomputable def iS0 : Stmt:=stAt (bodyOf (mtN 3 0)) 0
theorem init_shape : bodyOf (mtN 3 0) = [.Assign [.Attribute (.Name selfN (pa (sa iS0 1) 0).pos) msgN (sa iS0 1).pos] (.Name msgN (sa iS0 0).pos) iS0.pos]:=by kernel_rfl
noncomputable def ρI (m : Str) : Rho:=[(selfN,.ref 0),(msgN,.d (.str m))]
theorem init_bind (m : Str) : bindA [] (K.lmap (·.arg) (psOf (mtN 3 0)).args) [.ref 0,.d (.str m)] = some (ρI m):=by kernel_rfl
theorem init_names (m : Str) : nameV (scOf (mtN 3 0)) selfN (ρI m) = some (.ref 0) ∧ nameV (scOf (mtN 3 0)) msgN (ρI m) = some (.d (.str m)):=⟨by kernel_rfl,by kernel_rfl⟩
noncomputable def exO (t0 : Addr) : Obj:={ cls:=.ref 51,data:=.fields #[.ref t0,.none,.none,.none,.bool false,.none] }
noncomputable def exCx (G : Cx) (t0 : Addr) : Cx:=⟨{ G.V with obj:=fun _=>exO t0 },[],G.K,G.p,G.loose,G.mg,G.mb⟩
structure NewRef (h h' : Heap) (m : Str) (e D : Addr) (oe oD : Obj) (vs : Array Value) : Prop where
  keep : ∀ b o,h.get? b = some o → h'.get? b = some o
  new : h.get? e = none
  at_ : h'.get? e = some oe
  cls : oe.cls = .ref 51
  dict : oe.dict = some D
  data : oe.data = .fields vs
  tb : vs[1]? = some .none
  newD : h.get? D = none
  ne : D ≠ e
  atD : h'.get? D = some oD
  msg : ∃ t,lookIn msgN oD = some (some (.str m t))
theorem get_off {h h' : Heap} {e : Addr} (keep : ∀ b o,h.get? b = some o → h'.get? b = some o) (hn : h'.get? e = none) : h.get? e = none:=by
  cases q : h.get? e with
  | none=>rfl
  | some o=>exact nS (hn.symm.trans (keep _ _ q))
section
variable {G : Cx} {n : Nat} {c : Ct} {W : Wd} {σ : Sto} {E : Value → Shared → Prop} {s : Shared}
theorem make_ref (ko : KOk3 G) (hK : G.K = KF G.w.params) (Y : Fy G c W σ s.heap) (hA : Room (n + 2) c.A) {x : Str} {t : Tok} {Q : Value → Shared → Prop}
    (k : ∀ h' tk e D oe oD vs,NewRef s.heap h' x e D oe oD vs → Q (.ref e) { s with heap:=h',toks:=tk }) : wpAny G.M c.A (call (.ref 51) [.str x t]) Q E s:=by
  obtain ⟨h,g,d,tk0,os⟩:=s
  have KX : G.K.In h:=Y.Z.X.keeps Y.F.keep
  have I48:=ko.def' (a:=48) (st:=mtN 3 0) (ds:=[]) rfl (by kernel_rfl)
  obtain ⟨oI,hI,hIc⟩ : ∃ oI,h.get? 48 = some oI ∧ oI.cls = .type "function":=by
    obtain ⟨o,h2,h3⟩:=Option.map_eq_some_iff.mp (show typeIn G.K (.ref 48) = _ from hK ▸ (kg_ok _).2.2.2.2.2.2.2.2.2.2.2.2.1)
    exact ⟨o,KX _ _ h2,h3⟩
  refine call_ref (P:=G.w.params) (hK ▸ KX) hI hIc (by rw [List.length_singleton,sizeLine_eq]; decide) fun h' e hm=>wpAny_call ?_
  obtain ⟨t0,he,ht0,htt⟩:=hm.there
  have fre : ∀ {b o},h.get? b = some o → b ≠ e:=fun ho q=>nS (hm.new.symm.trans (q ▸ ho))
  have gK : ∀ b o,h.get? b = some o → (hideAll h' [e]).get? b = some o:=fun b o ho=>hideAll_get _ (hm.keeps b o ho) fun q=>fre ho (List.mem_singleton.mp q)
  have FG : Fr c.h₀ c.L (hideAll h' [e]) c.m:=⟨Y.F.ns.keeps gK,fun b o ho=>gK b o (Y.F.keep b o ho),Y.F.above⟩
  have BB:=Y.Z.B _ _ FG
  have gr : Gr (exCx G t0) { c.under 51 [.str x t] with cells:=[] } (hideAll h' [e]) ⟨[(e,exO t0)],[]⟩ [.any 0] h':=by
    have one : ∀ {p : Addr × Obj},p ∈ [(e,exO t0)] → p = (e,exO t0):=fun hp=>List.mem_singleton.mp hp
    refine ⟨⟨?_,BB.stays,BB.frames⟩,fun ev hev L₁ hL₁=>?_,fun b o ho=>of_hideAll _ ho,hideAll_size _ _,fun p hp=>?_,Y.Z.X.keeps FG.keep,Y.Z.T.keeps FG.keep,fun p hp=>?_,zero,zero,⟨⟨_,[],rfl,rfl,rfl⟩,List.pairwise_singleton _ _,zero⟩⟩
    · show pushEnvs ((tcCode 51 [.str x t]).envs) c.A.frames = some c.outer
      rw [typeCall_envs 51 [.str x t]]
      exact BB.stack
    · rcases Y.Z.fro ev hev L₁ hL₁ with rfl | q
      · obtain ⟨o,_,_,ho,_⟩:=FG.ns
        rw [ho]; rfl
      · obtain ⟨o,ho⟩:=Option.isSome_iff_exists.mp q
        rw [FG.keep _ _ ho]; rfl
    · rw [one (show p ∈ [(e,exO t0)] from hp)]
      exact ⟨he,hideAll_none _ (.head _)⟩
    · rw [one (show p ∈ [(e,exO t0)] from hp)]
      exact Y.notMods ko.cls (get_off Y.F.keep hm.new)
  show codeAny (exCx G t0).M _ _ _ _
  refine enter_grE (G:=exCx G t0) (n:=n) (W:=⟨[(e,exO t0)],[]⟩) (c:={ c.under 51 [.str x t] with cells:=[] }) (s:=⟨h',g,d,tk0,os⟩) I48.1 I48.2 (room_under hA 51 [.str x t]) gr (args:=[.ref 0,.d (.str x)]) (.cons ⟨e,rfl,rfl⟩ (.cons ⟨t,rfl⟩ rfl)) (init_bind x) fun env m' cm cs h₁ tk hA' XF E' _ _=>?_
  have keep1 : ∀ b o,b ≠ e → h'.get? b = some o → h₁.get? b = some o:=fun b o hb ho=>XF.Y.F.keep b o (hideAll_get _ ho fun q=>hb (List.mem_singleton.mp q))
  have he1 : h₁.get? e = some (exO t0):=(XF.Y.N (e,exO t0) (mem3.mpr (.inr (.inl (.head _))))).1
  have KX1 : (KF G.w.params).In h₁:=hK ▸ XF.Y.Z.X.keeps XF.Y.F.keep
  rw [init_shape]
  refine wpAny_execs_cons (exec_assign_plain (.attr _ _ _) ((exprS _).attr ..) ?_)
  refine XF.toFx.name (s:=⟨h₁,g,d,tk,os⟩) ko.glob (by kernel_rfl) (init_names x).2 fun v rv=>?_
  obtain ⟨t',rfl⟩ : ∃ t',v = .str x t':=rv
  rw [assign_Attribute]
  refine wpAny_bind (wpAny_holding (XF.toFx.name (s:=⟨h₁,g,d,tk,os⟩) ko.glob (by kernel_rfl) (init_names x).1 fun v rv=>wpAny_bind (wpAny_standAt (wpAny_bind (wpAny_holding ?_)))))
  obtain ⟨e',h2,rfl⟩ : ∃ a,[e][0]? = some a ∧ v = .ref a:=rv
  cases h2
  exact set_ref (s:=⟨h₁,g,d,tk,os⟩) KX1 he1 rfl rfl rfl fun h₂ tk₂ D oD kp hx hD0 hDx hD hl=>wpAny_release (wpAny_execs_nil ⟨rfl,k h₂ tk₂ e D _ oD _ ⟨fun b o ho=>kp b o (fre ho) (keep1 b o (fre ho) (hm.keeps b o ho)),hm.new,hx,rfl,rfl,rfl,rfl,get_off (fun b o ho=>keep1 b o (fre ho) (hm.keeps b o ho)) hD0,hDx,hD,t',hl⟩⟩)
end
structure Thr (G : Cx) (c : Ct) (W : Wd) (σ : Sto) (x : Str) (e : Addr) (h B : Heap) (D : Addr) (oD : Obj) (W' : Wd) : Prop where
  fl : Fl B c.outer e (.ref 51) (some D) .none h
  atD : B.get? D = some oD
  msg : ∃ t,lookIn msgN oD = some (some (.str x t))
  grd : ∀ b o,c.h₀.get? b = some o → b ∉ c.outer.filterMap (·.frame) → B.get? b = some o
  us : c.h₀.UpToSlots h
  ns : h.Ns c.L c.m
  news : News c.h₀ c.L B (c.all W')
  S : Sim G.V W' σ
  lo : ∀ p ∈ W'.led,(p.1 == sysModules) = false
  AC : ∀ p ∈ c.cells,∀ q ∈ W'.led,p.1 ≠ q.1
  more : More W W'
noncomputable def FnX (G : Cx) (n a : Nat) (args : List SV) (σ : Sto) (x : Str) (σ' : Sto) : Prop:=∀ ⦃c : Ct⦄ ⦃W : Wd⦄ ⦃C : Result → Shared → Prop⦄ ⦃s : Shared⦄ ⦃vals : List Value⦄,Room n c.A → Fy G c W σ s.heap → RelVs W.kn args vals →
  (∀ ⦃e h' tk B D oD W'⦄,Thr G c W σ' x e h' B D oD W' → C (.error (.ref e)) { s with heap:=h',toks:=tk }) → codeAny G.M c.A (.call (.ref a) ⟨vals,[]⟩) C s
noncomputable def ExX (G : Cx) (n : Nat) (sc : Scope) (l : List Stmt) (ρ : Rho) (σ : Sto) (x : Str) (σ' : Sto) : Prop:=∀ ⦃c : Ct⦄ ⦃env : Env⦄ ⦃m cm : Str → Option Value⦄ ⦃cs rest : Led⦄ ⦃W : Wd⦄ ⦃E : Value → Shared → Prop⦄ ⦃Q : Flow → Shared → Prop⦄ ⦃s : Shared⦄,Room n c.A → Fs G c env sc m cm cs rest W ρ σ s.heap →
  (∀ ⦃m' e h' tk B D oD W'⦄,Thr G (c.set m' rest) W σ' x e h' B D oD W' → E (.ref e) { s with heap:=h',toks:=tk }) → wpAny G.M c.A (execs l env) Q E s
noncomputable def ExN (G : Cx) (n : Nat) (sc : Scope) (l : List Stmt) (ρ : Rho) (σ : Sto) (x : Str) (σ' : Sto) : Prop:=∀ ⦃c : Ct⦄ ⦃env : Env⦄ ⦃m cm : Str → Option Value⦄ ⦃cs rest : Led⦄ ⦃W : Wd⦄ ⦃E : Value → Shared → Prop⦄ ⦃Q : Flow → Shared → Prop⦄ ⦃s : Shared⦄,Room n c.A → Fs G c env sc m cm cs rest W ρ σ s.heap →
  (∀ ⦃h₁ W' e h' tk D oe oD vs⦄,Fy G (c.set m (cs ++ rest)) W' σ' h₁ → More W W' → NewRef h₁ h' x e D oe oD vs → E (.ref e) { s with heap:=h',toks:=tk }) → wpAny G.M c.A (execs l env) Q E s
section
variable {G : Cx} {n : Nat} {c : Ct} {W : Wd} {σ σ' : Sto} {s : Shared} {a : Nat} {st : Stmt} {ds : List SV} {args : List SV} {vals : List Value} {ρ : Rho} {C : Result → Shared → Prop} {x : Str}
theorem not_own {env : Env} {outer : List Env} {b L : Addr} (hf : env.frame = some L) (h1 : b ≠ L) (h2 : b ∉ outer.filterMap (·.frame)) : b ∉ (env :: outer).filterMap (·.frame):=fun q=>by
  rw [List.filterMap_cons,hf] at q
  exact (List.mem_cons.mp q).elim h1 h2
theorem Fr.off {g h : Heap} {L b : Addr} {m : Str → Option Value} {o : Obj} (F : Fr g L h m) (ho : g.get? b = some o) : b ≠ L:=fun q=>nS ((kts_self F).symm.trans (q ▸ ho))
theorem ns_off {h : Heap} {L b : Addr} {m : Str → Option Value} (N : h.Ns L m) (hb : h.get? b = none) : b ≠ L:=fun q=>by
  obtain ⟨o,_,_,ho,_⟩:=N
  exact nS (hb.symm.trans (q ▸ ho))
theorem FnX.first (ko : KOk3 G) (h : fnAt a = some (st,ds)) (hd : (defP st).isSome = true) (hb : bindA ds (K.lmap (·.arg) (psOf st).args) args = some ρ) (b : ExN G n (scOf st) (bodyOf st) ρ σ x σ') : FnX G (n + 1) a args σ x σ':=fun c W C s vals hA Y r k=>by
  refine enter_grE (ko.def' h hd).1 (ko.def' h hd).2 hA Y.gr r hb fun env m' cm cs h₁ tk hA' XF E hE hf=>?_
  have FG:=Y.ground
  refine b (c:=c.deep (groundOf s.heap (c.all W)) env) (s:={ s with heap:=h₁,toks:=tk }) hA' XF fun h₂ W₂ e h₃ tk₃ D oe oD vs Y₂ mo nr=>hE _ _ ?_
  have F₂ : Fr (groundOf s.heap (c.all W)) env.locals h₂ m':=Y₂.F
  have BB:=Y₂.Z.B _ _ Y₂.F
  have inB : ∀ b o,h₃.get? b = some o → b ≠ e → b ∉ (env :: c.outer).filterMap (·.frame) → (hideAll h₃ (e :: (env :: c.outer).filterMap (·.frame))).get? b = some o:=fun b o ho h1 h2=>hideAll_get _ ho fun q=>(List.mem_cons.mp q).elim h1 h2
  have fre : ∀ b o,h₂.get? b = some o → b ≠ e:=fun b o ho q=>nS (nr.new.symm.trans (q ▸ ho))
  refine leaving_first (s:={ s with heap:=h₃,toks:=tk₃ }) (B:=hideAll h₃ (e :: (env :: c.outer).filterMap (·.frame))) (outer:=c.outer) BB.stack (funFrames_hide (base:=c.base) (BB.frames.of_keeps fun b o ho _=>⟨o,nr.keep _ _ ho,rfl⟩) fun ev hev b hb=>.tail _ (List.mem_filterMap.mpr ⟨ev,hev,hb⟩)) hf
    (fun b o ho=>of_hideAll _ ho) (hideAll_none _ (.head _)) nr.at_ nr.data nr.tb fun h₄ fl us=>?_
  rw [nr.cls,nr.dict] at fl
  refine k (e:=e) (h':=h₄) (tk:=tk₃) (D:=D) (W':=W₂) ⟨fl,inB _ _ nr.atD nr.ne fun q=>?_,nr.msg,fun b o ho nf=>?_,?_,?_,fun p hp=>?_,Y₂.S,Y₂.lo,fun p hp q hq=>Y₂.AC p (List.mem_append_right _ hp) q hq,mo⟩
  · obtain ⟨_,o,ho,_⟩:=BB.frames.mem q
    exact nS (nr.newD.symm.trans ho)
  · have h1:=FG.keep _ _ ho
    have h2:=F₂.keep _ _ h1
    exact inB _ _ (nr.keep _ _ h2) (fre _ _ h2) (not_own hf (Fr.off F₂ h1) nf)
  · exact ((Heap.UpToSlots.of_keeps FG.keep).trans (Heap.UpToSlots.of_keeps F₂.keep)).trans ((Heap.UpToSlots.of_keeps nr.keep).trans us)
  · exact us.ns ((FG.ns.keeps F₂.keep).keeps nr.keep)
  · obtain ⟨n1,n2,n3⟩:=Y₂.N p (mem3.mpr ((mem3.mp hp).imp_left (List.mem_append_right _)))
    have n3 : (groundOf s.heap (c.all W)).get? p.1 = none:=n3
    refine ⟨inB _ _ (nr.keep _ _ n1) (fre _ _ n1) fun q=>?_,ns_off FG.ns n3,kts_none FG.keep n3⟩
    obtain ⟨ev,hev,hq⟩:=List.mem_filterMap.mp q
    rcases Y₂.Z.fro ev hev _ hq with h | h
    · exact n2 h
    · exact nT ((congrArg Option.isSome n3).symm.trans h)
theorem FnX.next (ko : KOk3 G) (h : fnAt a = some (st,ds)) (hd : (defP st).isSome = true) (hb : bindA ds (K.lmap (·.arg) (psOf st).args) args = some ρ) (b : ExX G n (scOf st) (bodyOf st) ρ σ x σ') : FnX G (n + 1) a args σ x σ':=fun c W C s vals hA Y r k=>by
  refine enter_grE (ko.def' h hd).1 (ko.def' h hd).2 hA Y.gr r hb fun env m' cm cs h₁ tk hA' XF E hE hf=>?_
  have FG:=Y.ground
  refine b (c:=c.deep (groundOf s.heap (c.all W)) env) (s:={ s with heap:=h₁,toks:=tk }) hA' XF fun m₂ e h₂ tk₂ B D oD W₂ T=>hE _ _ ?_
  have BB:=XF.Y.Z.B _ _ XF.Y.F
  refine leaving_next (s:={ s with heap:=h₂,toks:=tk₂ }) BB.stack hf T.fl fun h₃ fl us=>?_
  exact k (e:=e) (h':=h₃) (tk:=tk₂) (D:=D) (W':=W₂) ⟨fl,T.atD,T.msg,fun b o ho nf=>T.grd b o (FG.keep _ _ ho) (not_own hf (Fr.off XF.Y.F (FG.keep _ _ ho)) nf),((Heap.UpToSlots.of_keeps FG.keep).trans T.us).trans us,us.ns (T.us.ns FG.ns),fun p hp=>⟨(T.news p hp).1,ns_off FG.ns (T.news p hp).2.2,kts_none FG.keep (T.news p hp).2.2⟩,T.S,T.lo,T.AC,T.more⟩
end
noncomputable def refN : Str:=Str.ofString "Refusal"
noncomputable def raiS : Stmt:=stAt (sb wtS 0) 0
noncomputable def raiE : Expr:=retE (stAt (tryQ raiS).1 0)
noncomputable def cK (e : Expr) : Nat:=@Option.rec (Sk × List Expr) (fun _=>Nat) 0 (fun v=>v.1.2.2.2.1) (view e)
noncomputable def cC (e : Expr) : Const:=@Option.rec (Sk × List Expr) (fun _=>Const) .none (fun v=>v.1.2.2.2.2.1) (view e)
noncomputable def wtX : Str:=match cC (pa raiE 1) with | .str x=>x | _=>Str.empty
theorem wt_shape : bodyOf wt = .If (sa wtS 0) [.Raise (some (.Call (.Name refN (pa raiE 0).pos) [.Constant (.str wtX) (cK (pa raiE 1)) (pa raiE 1).pos] [] raiE.pos)) none raiS.pos] [] wtS.pos :: (bodyOf wt).drop 1:=by kernel_rfl
noncomputable def bwE : Expr:=sa (bwS 2) 0
theorem bw_shape : bodyOf bw = [bwS 0,bwS 1] ++ .Assign [.Name (nm "result") (sa (bwS 2) 1).pos] (.Call (.Name (nm "which_true") (pa bwE 0).pos) [.Name (nm "v") (pa bwE 1).pos] [] bwE.pos) (bwS 2).pos :: (bodyOf bw).drop 3:=by kernel_rfl
section
variable {G : Cx} {n : Nat} {sc : Scope} {ρ ρ' ρ₁ : Rho} {σ σ₁ σ₂ σ' : Sto} {x : Str}
theorem ExN.ifRaise (ko : KOk3 G) (hK : G.K = KF G.w.params) {t : Expr} {p1 p2 p3 p4 p5 : Pos} {kk : Nat} {r : List Stmt} (hn : 60 ≤ n) (tst : TstT G n sc t ρ σ true σ₁) (hf : nameV sc refN ρ = some (.top 51)) :
    ExN G n sc (.If t [.Raise (some (.Call (.Name refN p1) [.Constant (.str x) kk p2] [] p3)) none p4] [] p5 :: r) ρ σ x σ₁:=fun c env m cm cs rest W E Q s hA X k=>by
  refine wpAny_execs_cons (wpAny_If (tst.st hA X fun h₁ tk₁ W₁ X₁ m₁=>?_))
  show wpAny _ _ (execs [.Raise (some (.Call (.Name refN p1) [.Constant (.str x) kk p2] [] p3)) none p4] env) _ _ _
  refine wpAny_execs_cons ?_
  rw [arm_exec_Raise]
  have main : wpAny G.M c.A (eval (.Call (.Name refN p1) [.Constant (.str x) kk p2] [] p3) env) (fun v s₁=>∃ e oe vs,v = .ref e ∧ (KF G.w.params).In s₁.heap ∧ s₁.heap.get? e = some oe ∧ oe.cls = .ref 51 ∧ oe.data = .fields vs ∧ vs[1]? = some .none ∧ E (.ref e) s₁) E { s with heap:=h₁,toks:=tk₁ }:=by
    have he : eval (.Call (.Name refN p1) [.Constant (.str x) kk p2] [] p3) env = (do callWith p3 (← eval (.Name refN p1) env) [] (backTo p3 (starEach [.Constant (.str x) kk p2] env)) (backToKw p3 (keywordEach [] env))):=rfl
    rw [he]
    refine wpAny_bind (X₁.toFx.name (s:={ s with heap:=h₁,toks:=tk₁ }) ko.glob (by kernel_rfl) hf fun vf rf=>?_)
    obtain rfl : vf = .ref 51:=rf
    refine (evL_s (rec0 ko 3).ev _ _ (show evL (runF 3 T0) sc ρ [.Constant (.str x) kk p2] σ₁ = some ([.d (.str x)],σ₁) from rfl)).call (c:=c.set m (cs ++ rest)) (s:={ s with heap:=h₁,toks:=tk₁ }) (first:=[]) (hA.le (Nat.le_trans (by decide) hn)) (keepOk_K (hK ▸ (kg_ok _).2.2.2.2.2.2.2.2.2.2.2.2.2)) X₁.toFx fun ws h₂ tk₂ W₂ X₂ rs m₂=>?_
    obtain ⟨v,vs,rfl,rv,rr⟩:=rs
    obtain ⟨t',rfl⟩ : ∃ t',v = .str x t':=rv
    obtain rfl : vs = []:=rr
    refine make_ref ko hK (s:={ s with heap:=h₂,toks:=tk₂ }) (n:=58) X₂.Y (hA.le hn) fun h₃ tk₃ e D oe oD vs nr=>?_
    exact ⟨e,oe,vs,rfl,fun a o ho=>nr.keep _ _ (X₂.Y.F.keep _ _ (X₂.Y.Z.X _ _ (hK ▸ ho))),nr.at_,nr.cls,nr.data,nr.tb,k X₂.Y (m₁.trans m₂) nr⟩
  exact wpAny_bind (wpAny_standAt (raise_ref (P:=G.w.params) hA.1 (wpAny_bind (wpAny_mono main (fun v s₃ h₃=>wpAny_bind (wpAny_standAt (wpAny_pure h₃))) fun _ _ x=>x))))
theorem ExX.cons {st : Stmt} {r : List Stmt} (h : StT G n sc st ρ σ .next ρ₁ σ₁) (h2 : ExX G n sc r ρ₁ σ₁ x σ') : ExX G n sc (st :: r) ρ σ x σ':=fun c env m cm cs rest W E Q s hA X k =>
  wpAny_execs_cons (h hA X fun m₂ cm₂ cs₂ h₂ tk₂ W₂ fl X₂ mo fr=>by
    cases fr
    show wpAny G.M c.A (execs r env) Q E { s with heap:=h₂,toks:=tk₂ }
    exact h2 hA (s:={ s with heap:=h₂,toks:=tk₂ }) X₂ fun m' e h' tk B D oD W' T=>k { T with more:=mo.trans T.more })
theorem runSs_p {P : List Stmt → Rho → Sto → Prop} {T : Tab} (ko : KOk3 G) (ht : TabOk G T) (hc : ∀ {st r ρ σ ρ₁ σ₁},StT G n sc st ρ σ .next ρ₁ σ₁ → P r ρ₁ σ₁ → P (st :: r) ρ σ) (l : List Stmt) : ∀ ρ σ,Sat (runSs (runF n T) sc l ρ σ) (U2 fun ρ' σ'=>∀ r,P r ρ' σ' → P (l ++ r) ρ σ):=by
  induction l with
  | nil=>exact fun ρ σ=>.yes fun _ h=>h
  | cons s l ih=>exact fun ρ σ=>.o3 (Q:=fun o ρ1 σ1=>StT G n sc s ρ σ o ρ1 σ1) (fun q e=>StT.run ko ht e) fun o ρ1 σ1 h=>(Sat.nextO (P:=fun o q=>StT G n sc s ρ σ o ρ1 σ1 → U2 (fun ρ' σ'=>∀ r,P r ρ' σ' → P (s :: l ++ r) ρ σ) q) ((ih ρ1 σ1).mono fun q t h r x=>hc h (t r x))).mono fun _ k=>k h
theorem Thr.cells {c : Ct} {cells' : Led} {W₀ W W' : Wd} {e : Addr} {h B : Heap} {D : Addr} {oD : Obj} (T : Thr G c W σ x e h B D oD W') (hc : ∀ p ∈ cells',p ∈ c.cells) (mo : More W₀ W) : Thr G (c.set c.m cells') W₀ σ x e h B D oD W' :=
  ⟨T.fl,T.atD,T.msg,T.grd,T.us,T.ns,fun p hp=>T.news p (mem3.mpr ((mem3.mp hp).imp_left (hc p))),T.S,T.lo,fun p hp=>T.AC p (hc p hp),mo.trans T.more⟩
theorem call_raises (ko : KOk3 G) {c : Ct} {env : Env} {cm : Str → Option Value} {W : Wd} {E Q : Value → Shared → Prop} {s : Shared} {f : Str} {p1 p2 : Pos} {args : List Expr} {a : Nat} {vs : List SV} {k : Nat} (hA : Room n c.A) (hn : k ≤ n) (X : Fx G c env sc cm W ρ σ s.heap)
    (hf : nameV sc f ρ = some (.top a)) (hd : (!seq f (Str.ofString "__debug__")) = true) (hk : (fnAt a).isSome = true) (el : evL (runF k T0) sc ρ args σ = some (vs,σ₁)) (h : FnX G n a vs σ₁ x σ')
    (kk : ∀ ⦃e h' tk B D oD W'⦄,Thr G c W σ' x e h' B D oD W' → E (.ref e) { s with heap:=h',toks:=tk }) : wpAny G.M c.A (eval (.Call (.Name f p1) args [] p2) env) Q E s:=by
  have he : eval (.Call (.Name f p1) args [] p2) env = (do callWith p2 (← eval (.Name f p1) env) [] (backTo p2 (starEach args env)) (backToKw p2 (keywordEach [] env))):=rfl
  rw [he]
  refine wpAny_bind (X.name ko.glob hd hf fun vf rf=>?_)
  obtain rfl : vf = .ref a:=rf
  exact (evL_s (rec0 ko k).ev _ _ el).call (first:=[]) (hA.le hn) (keepOk_K (ko.keep a (.inl hk))) X fun ws h₂ tk₂ W₂ X₂ rs m₂=>wpAny_call (h (s:={ s with heap:=h₂,toks:=tk₂ }) hA X₂.Y rs fun e h' tk B D oD W' T=>kk (T.cells (fun _ hp=>hp) m₂))
theorem ExX.assign (ko : KOk3 G) {f y : Str} {p0 p1 p2 p3 : Pos} {args : List Expr} {a : Nat} {vs : List SV} {k : Nat} {r : List Stmt} (hn : k ≤ n) (hf : nameV sc f ρ = some (.top a)) (hd : (!seq f (Str.ofString "__debug__")) = true) (hk : (fnAt a).isSome = true)
    (el : evL (runF k T0) sc ρ args σ = some (vs,σ₁)) (h : FnX G n a vs σ₁ x σ') : ExX G n sc (.Assign [.Name y p0] (.Call (.Name f p1) args [] p2) p3 :: r) ρ σ x σ':=fun c env m cm cs rest W E Q s hA X kk =>
  wpAny_execs_cons (exec_assign_plain (.name _ _) ((exprS _).swap rfl _ _ _) (call_raises (c:=c.set m (cs ++ rest)) ko hA hn X.toFx hf hd hk el h fun e h' tk B D oD W' T=>kk (T.cells (fun p hp=>List.mem_append_right _ hp) (Kn.Le.refl _))))
end
theorem bw_arg (ρ : Rho) (σ : Sto) (p : Pos) : (runF 3 T0).ev (scOf bw) (.Name (nm "v") p) ρ σ = om (nameV (scOf bw) (nm "v") ρ) fun v=>(v,σ):=by kernel_rfl
theorem try_call {G : Cx} (ko : KOk3 G) (hK : G.K = KF G.w.params) {ρ : Rho} {σ : Sto} {P : Prop} (h : (tryR ρ σ).isSome = true) (k : ∀ vs σ₁ σ₂,lk (nm "said") ρ = none → evL (runF 60 T0) lawSc ρ (args1 tcE) σ = some (vs,σ₁) → FnX G 101 863 vs σ₁ wtX σ₂ → gc σ.length (.d .none) σ₂ = some (.d .none,σ) → P) : P:=by
  obtain ⟨u,e⟩:=Option.isSome_iff_exists.mp h
  have s : Sat (tryR ρ σ) fun _=>P:=.gd fun h0=>.ob fun vs σ₁ el=>.oo fun ρb hb=>.ob fun ρ2 σ₂ e3=>.oo fun v hv=>(Sat.vRef (P:=fun v _=>nameV (scOf bw) (nm "v") ρ2 = some v → P) fun i=>.gd fun h=>.yes fun hv=>by
    have f1 : FnX G 100 677 [.ref i] σ₂ wtX σ₂:=FnX.first (n:=99) ko (st:=wt) (ds:=[]) (ρ:=[(nm "v",.ref i)]) rfl (by kernel_rfl) (by kernel_rfl) (by
      rw [wt_shape]
      exact ExN.ifRaise ko hK (by decide) (TstT.le (TstT.run ko (tab0 G) (isTst_i (bA_i h).1)) (by decide)) (by kernel_rfl))
    refine k vs σ₁ σ₂ (Option.isNone_iff_eq_none.mp h0) el (FnX.next (n:=100) ko (st:=bw) (ds:=[]) rfl (by kernel_rfl) hb ?_) (K.len_eq σ ▸ isRes_i (bA_i h).2)
    rw [bw_shape]
    refine runSs_p (P:=fun l ρ σ=>ExX G 100 (scOf bw) l ρ σ wtX σ₂) ko (tab0 G) ExX.cons [bwS 0,bwS 1] _ _ e3 _ (ExX.assign ko (k:=3) (by decide) (a:=677) (vs:=[.ref i]) (σ₁:=σ₂) (by kernel_rfl) (by kernel_rfl) rfl ?_ f1)
    show ob ((runF 3 T0).ev (scOf bw) (.Name (nm "v") (pa bwE 1).pos) ρ2 σ₂) (fun v σ=>some ([v],σ)) = _
    rw [bw_arg,hv]
    rfl).mono fun _ k=>k hv
  exact s e
noncomputable def hdQ (s : Stmt) : Expr × List Stmt × Pos:=((tryQ s).2.head?).elim (dE,[],s.pos) fun h=>@ExceptHandler.casesOn (fun _=>Expr × List Stmt × Pos) h fun t _ b p=>(t.getD dE,b,p)
noncomputable def hIf : Stmt:=stAt (hdQ tryS).2.1 0
noncomputable def hTe : Expr:=sa hIf 0
noncomputable def saidN : Str:=nm "said"
theorem try_shape : tryS = .Try [.Expr (.Call (.Name (nm "b_which") (pa tcE 0).pos) (args1 tcE) [] tcE.pos) (tryB 0).pos,tryB 1] [.ExceptHandler (some (.Name refN (hdQ tryS).1.pos)) (some saidN)
    [.If (.Compare (.Attribute (.Name saidN (pa (pa hTe 0) 0).pos) msgN (pa hTe 0).pos) [.NotEq] [.Constant (.str wtX) (cK (pa hTe 1)) (pa hTe 1).pos] hTe.pos) (sb hIf 0) [] hIf.pos] (hdQ tryS).2.2] [] [] tryS.pos:=by kernel_rfl
theorem law_names (ρ : Rho) : nameV lawSc (nm "b_which") ρ = some (.top 863) ∧ nameV lawSc refN ρ = some (.top 51) ∧ lk saidN lawSc.names = some .local:=⟨by kernel_rfl,by kernel_rfl,by kernel_rfl⟩
noncomputable def StL (G : Cx) (n : Nat) (sc : Scope) (st : Stmt) (ρ : Rho) (σ : Sto) (out : Out) (ρ' : Rho) (σ' : Sto) : Prop:=∀ ⦃c : Ct⦄ ⦃env : Env⦄ ⦃m cm : Str → Option Value⦄ ⦃cs rest : Led⦄ ⦃W : Wd⦄ ⦃E : Value → Shared → Prop⦄ ⦃Q : Flow → Shared → Prop⦄ ⦃s : Shared⦄,Room n c.A → c.outer = [env] → env.frame = some env.locals →
  Fs G c env sc m cm cs rest W ρ σ s.heap → StPost G c env sc rest W out ρ' σ' Q s → wpAny G.M c.A (exec st env) Q E s
section
variable {G : Cx} {n : Nat} {c : Ct} {env : Env} {sc : Scope} {m cm : Str → Option Value} {cs rest : Led} {W : Wd} {ρ : Rho} {σ σ₁ : Sto} {E : Value → Shared → Prop} {s : Shared}
theorem Fs.mark {h : Heap} {v : Value} (X : Fs G c env sc m cm cs rest W ρ σ h) : Fs G { c with A:=c.A.mark (some v) } env sc m cm cs rest W ρ σ h :=
  ⟨⟨⟨⟨fun h' m' F=>⟨(X.Y.Z.B h' m' F).stack,(X.Y.Z.B h' m' F).stays,(X.Y.Z.B h' m' F).frames⟩,X.Y.Z.fro,X.Y.Z.X,X.Y.Z.T,X.Y.Z.kept⟩,X.Y.F,X.Y.N,X.Y.lo,X.Y.AC,X.Y.S⟩,X.L,X.E,X.C,X.V⟩,X.own,X.ndn,X.ndc,X.off,X.keptR,X.has⟩
theorem VarOk.like {k : Kn} {m m' cm : Str → Option Value} {cl : List (Str × Addr)} (h : VarOk sc k ρ m cm cl) (hm : ∀ y sv,lk y ρ = some sv → m' y = m y) : VarOk sc k ρ m' cm cl:=fun y sv q=>⟨fun z=>by rw [hm y sv q]; exact (h y sv q).1 z,(h y sv q).2⟩
theorem Thr.back {h h' B : Heap} {x : Str} {e : Addr} {D : Addr} {oD : Obj} {W' : Wd} {m' : Str → Option Value} (X : Fs G c env sc m cm cs rest W ρ σ h) (ho : c.outer = [env]) (hf : env.frame = some env.locals) (T : Thr G (c.set m (cs ++ rest)) W σ₁ x e h' B D oD W') {h'' : Heap} (kb : B.StaysIn h'') (ns : h''.Ns env.locals m')
    (hm : ∀ y sv,lk y ρ = some sv → m' y = m y) : Fs G c env sc m' cm cs rest W' ρ σ₁ h'':=by
  have L:=X.L
  refine ⟨⟨⟨⟨X.Y.Z.B,X.Y.Z.fro,X.Y.Z.X,X.Y.Z.T,X.Y.Z.kept⟩,⟨L ▸ ns,fun b o hb=>kb b o (T.grd b o hb ?_),X.Y.F.above⟩,fun p hp=>⟨kb _ _ (T.news p hp).1,(T.news p hp).2⟩,T.lo,T.AC,T.S⟩,L,X.E,X.C,(X.V.more T.more).like hm⟩,X.own,X.ndn,X.ndc,X.off,X.keptR,X.has⟩
  show b ∉ c.outer.filterMap (·.frame)
  rw [ho]
  exact not_own hf (fun q=>Fr.off X.Y.F hb (q.trans L.symm)) List.not_mem_nil
theorem bne_self_l (l : List Nat) : (l != l) = false:=by rw [bne,beq_self_eq_true]; rfl
theorem try_ok (ko : KOk3 G) (hK : G.K = KF G.w.params) (ht : (tryR ρ σ).isSome = true) : StL G 245 lawSc tryS ρ σ .next ρ σ:=fun c env m cm cs rest W E Q s hA ho hf X k=>by
  refine try_call ko hK ht fun vs σ₁ σ₂ h0 el fx eg=>?_
  obtain ⟨lw,lr,ls⟩:=law_names ρ
  rw [try_shape]
  refine wpAny_Try_except (wpAny_execs_cons (wpAny_Expr_any ?_ (by unfold interactive; rw [X.E.kind]; rfl) ((exprS _).swap rfl _ _ env)))
  refine call_raises (c:=c.set m (cs ++ rest)) (n:=101) ko (hA.le (by decide)) (k:=60) (by decide) X.toFx lw (by kernel_rfl) rfl el fx fun e h₁ tk₁ B D oD W' T=>?_
  have BB:=X.Y.Z.B _ _ X.Y.F
  have BS : c.A.frames = some [env]:=ho ▸ BB.stack
  have TF : Fl B [env] e (.ref 51) (some D) .none h₁:=ho ▸ T.fl
  have nsT : h₁.Ns env.locals m:=X.L ▸ T.ns
  refine note_next (s:={ s with heap:=h₁,toks:=tk₁ }) BS hf TF fun h₂ f₂ u₂=>flight_none (s:={ s with heap:=h₂,toks:=tk₁ }) f₂ fun h₃ f₃ u₃=>?_
  have ns₃ : h₃.Ns env.locals m:=u₃.ns (u₂.ns nsT)
  have X₃:=T.back X ho hf f₃.stays ns₃ fun _ _ _=>rfl
  refine wpAny_handleBy_cons (codeAny_handlers_test (X₃.mark.toFx.name (s:={ s with heap:=h₃,toks:=tk₁ }) ko.glob (by kernel_rfl) lr fun vc rc=>?_)) (by intro q; cases q)
  obtain rfl : vc = .ref 51:=rc
  have hC : h₃.get? 51 = some (rO G.w.params):=X₃.Y.F.keep _ _ (X₃.Y.Z.X _ _ (hK ▸ (kg_ok _).2.2.1))
  obtain ⟨oe,ws,Ta,oT,ts,he,hcls,-⟩:=f₃.exc
  refine wpAny_excMatches_sub_self hC he hcls (by decide +kernel) ?_
  show codeAny _ _ _ _ _
  refine codeAny_handlers_suite_as (flight_none (s:={ s with heap:=h₃,toks:=tk₁ }) f₃ fun h₄ f₄ u₄=>?_)
  have ns₄ : h₄.Ns env.locals m:=u₄.ns ns₃
  refine wpAny_storeName_local (X.E.names _ _ ls) ns₄ (fun h₅ ns₅ hs₅=>?_) X.plainKind
  have nL : B.get? env.locals = none:=by
    obtain ⟨_,⟨L',_,hf',hn',_⟩,_⟩:=TF.frames
    rw [hf] at hf'
    obtain rfl:=Option.some.inj hf'
    exact hn'
  have offL : ∀ {b o},B.get? b = some o → b ≠ env.locals:=fun hb q=>nS (nL.symm.trans (q ▸ hb))
  have kb₅ : B.StaysIn h₅:=fun b o hb=>(hs₅.2 b (offL hb)).trans (f₄.stays b o hb)
  have noS : ∀ y sv,lk y ρ = some sv → y ≠ saidN:=fun y sv hy q=>nS ((show lk saidN ρ = none from h0).symm.trans (q ▸ hy))
  have X₅:=T.back X ho hf kb₅ ns₅ fun y sv hy=>if_neg (noS y sv hy)
  obtain ⟨oe',ws',Ta',oT',ts',he',hcls',hdd',hd',-⟩:=f₄.exc
  have eL : e ≠ env.locals:=fun q=>by
    obtain ⟨o,es,ep,h1,hd,_⟩:=ns₄
    rw [← q,he'] at h1
    obtain rfl:=Option.some.inj h1
    exact nomatch hd'.symm.trans hd
  have he₅ : h₅.get? e = some oe':=(hs₅.2 e eL).trans he'
  have hD₅ : h₅.get? D = some oD:=kb₅ _ _ T.atD
  obtain ⟨tm,hl⟩:=T.msg
  refine wpAny_execs_cons (wpAny_If ?_)
  generalize eval (.Compare (.Attribute (.Name saidN (pa (pa hTe 0) 0).pos) msgN (pa hTe 0).pos) [.NotEq] [.Constant (.str wtX) (cK (pa hTe 1)) (pa hTe 1).pos] hTe.pos) env = tt
  rw [arm_isTrue_Compare]
  have ev1 : ∀ {Q : Value → Shared → Prop} {E : Value → Shared → Prop},(∀ tk,Q (.str wtX tm) { s with heap:=h₅,toks:=tk }) → wpAny G.M (c.A.mark (some (.ref e))) (eval (.Attribute (.Name saidN (pa (pa hTe 0) 0).pos) msgN (pa hTe 0).pos) env) Q E { s with heap:=h₅,toks:=tk₁ + 1 }:=by
    intro Q E kq
    rw [arm_eval_Attribute,(exprF _).base rfl]
    refine wpAny_bind (wpAny_Name (wpAny_loadName_local X.E.kind (X.E.names _ _ ls) ns₅ (v:=.ref e) (if_pos rfl) ?_) (by decide +kernel))
    refine wpAny_bind (wpAny_standAt (wpAny_bind (wpAny_holding ?_)))
    refine get_ref (P:=G.w.params) (s:={ s with heap:=h₅,toks:=tk₁ + 1 }) (hK ▸ X₅.Y.Z.X.keeps X₅.Y.F.keep) he₅ hcls' hd' hdd' hD₅ hl rfl ?_
    exact wpAny_bind (wpAny_letTemporaryGo (wpAny_pure (kq _)))
  refine wpAny_bind (ev1 fun tk₅=>?_)
  show wpAny _ _ (do
    let rv ← holding [.str wtX tm] (markedBehindIn .NotEq (.Constant (.str wtX) (cK (pa hTe 1)) (pa hTe 1).pos) (eval (.Constant (.str wtX) (cK (pa hTe 1)) (pa hTe 1).pos) env))
    standAt hTe.pos
    let c ← operate [.str wtX tm,rv] (compareOp .NotEq (.str wtX tm) rv)
    holding [c] (truthy c)) _ _ _
  rw [(exprF _).mark rfl]
  refine wpAny_bind (wpAny_holding (wpAny_Constant_str (wpAny_bind (wpAny_standAt (wpAny_bind (wpAny_operating (PySem.P.ne_str ?_)))))))
  rw [bne_self_l]
  refine wpAny_holding (wpAny_pure ?_)
  show wpAny _ _ (execs [] env) _ _ _
  refine wpAny_execs_nil ?_
  refine wpAny_execs_nil ?_
  refine wpAny_nameGoes_keeps (X.E.names _ _ ls) ns₅ X.plainKind fun h₆ v₆ ns₆ hs₆=>?_
  have kb₆ : B.StaysIn h₆:=fun b o hb=>(hs₆.2 b (offL hb)).trans (kb₅ b o hb)
  have hm₆ : ∀ y sv,lk y ρ = some sv → (if y = saidN then v₆ else if y = saidN then some (Value.ref e) else m y) = m y:=fun y sv hy=>(if_neg (noS y sv hy)).trans (if_neg (noS y sv hy))
  have X₆:=T.back X ho hf kb₆ ns₆ hm₆
  obtain ⟨W₇,Y₇,r₇,m₇⟩:=gc_s (W:=W) rfl X.Y.S.rel.length X₆.Y (w:=.none) relV_none T.more eg
  exact k (h:=h₆) (cs:=cs) (W':=W₇) (fl:=.next) ⟨⟨Y₇,X.L,X.E,X.C,(X.V.more m₇).like hm₆⟩,X.own,X.ndn,X.ndc,X.off,X.keptR,X.has⟩ m₇ rfl
end
noncomputable def ExL (G : Cx) (n : Nat) (sc : Scope) (l : List Stmt) (ρ : Rho) (σ : Sto) (out : Out) (ρ' : Rho) (σ' : Sto) : Prop:=∀ ⦃c : Ct⦄ ⦃env : Env⦄ ⦃m cm : Str → Option Value⦄ ⦃cs rest : Led⦄ ⦃W : Wd⦄ ⦃E : Value → Shared → Prop⦄ ⦃Q : Flow → Shared → Prop⦄ ⦃s : Shared⦄,Room n c.A → c.outer = [env] → env.frame = some env.locals →
  Fs G c env sc m cm cs rest W ρ σ s.heap → StPost G c env sc rest W out ρ' σ' Q s → wpAny G.M c.A (execs l env) Q E s
section
variable {G : Cx} {n : Nat} {sc : Scope} {ρ ρ₁ ρ' : Rho} {σ σ₁ σ' : Sto} {out : Out}
theorem ExL.of {l : List Stmt} (h : ExT G n sc l ρ σ out ρ' σ') : ExL G n sc l ρ σ out ρ' σ':=fun _ _ _ _ _ _ _ _ _ _ hA _ _ X k=>h hA X k
theorem StL.of {l : Stmt} (h : StT G n sc l ρ σ out ρ' σ') : StL G n sc l ρ σ out ρ' σ':=fun _ _ _ _ _ _ _ _ _ _ hA _ _ X k=>h hA X k
theorem ExL.cons {st : Stmt} {r : List Stmt} (h : StL G n sc st ρ σ .next ρ₁ σ₁) (h2 : ExL G n sc r ρ₁ σ₁ out ρ' σ') : ExL G n sc (st :: r) ρ σ out ρ' σ':=fun c env m cm cs rest W E Q s hA ho hf X k=>wpAny_execs_cons (h hA ho hf X fun m₂ cm₂ cs₂ h₂ tk₂ W₂ fl X₂ mo fr=>by
  cases fr
  exact h2 hA ho hf (s:={ s with heap:=h₂,toks:=tk₂ }) X₂ (k.tr mo))
theorem StL.ifT {t : Expr} {a b : List Stmt} {p : Pos} (h1 : TstT G n sc t ρ σ true σ₁) (h2 : ExL G n sc a ρ σ₁ out ρ' σ') : StL G n sc (.If t a b p) ρ σ out ρ' σ':=fun c env m cm cs rest W E Q s hA ho hf X k =>
  wpAny_If (h1.st hA X fun h₁ tk₁ W₁ X₁ m₁=>h2 hA ho hf (s:={ s with heap:=h₁,toks:=tk₁ }) X₁ (k.tr m₁))
end
theorem s17_shape : s17 = .If (sa s17 0) [tryS] [] s17.pos:=by kernel_rfl
theorem tail_shape : (bodyOf (stN 152)).drop 5 = tail12 ++ [s17,lawS 18]:=by kernel_rfl
theorem law_tail {G : Cx} (ko : KOk3 G) (hK : G.K = KF G.w.params) {w1 w2 : Nat} {nmf : Bool} {sty : Int} {o b c1 c2 : Nat} (T : TailV G.V w1 w2 nmf sty o b c1 c2) :
    ∃ ρ' σ',σ'[0]? = some (.any 0) ∧ ExL G 245 lawSc ((bodyOf (stN 152)).drop 5) (ρd (srt w1) (srt w2)) (σ5 w1 w2) (.ret (.d (.bool true))) ρ' σ':=by
  obtain ⟨⟨ρ,σ⟩,e,h⟩:=optT_i (chkTl_at T.h1 T.h2 nmf sty)
  have h2:=bA_i (bA_i h).2
  have h1:=(bA_i h).1
  obtain ⟨⟨out,ρ9,σ9⟩,e9,h9⟩:=optT_i h2.2
  have e9 : exS (runF 100 T0) lawSc (lawS 18) ρ σ = some (out,ρ9,σ9):=e9
  cases out with
  | ret v =>
    obtain ⟨hv,h0⟩:=bA_i (x:=sameV v (.d (.bool true))) h9
    cases sameV_eq _ _ hv
    obtain ⟨ob,h0,h0'⟩:=optT_i h0
    cases sameO_eq _ _ h0'
    refine ⟨ρ9,σ9,(nth_eq ..).symm.trans h0,?_⟩
    have tst : TstT G 245 lawSc (sa s17 0) ρ σ (!(Nat.beq w1 0)) σ:=TstT.le (TstT.run ko (tab0 G) (isTst_i h2.1)) (by decide)
    have l17 : StL G 245 lawSc s17 ρ σ .next ρ σ:=by
      rw [s17_shape]
      cases q : Nat.beq w1 0 with
      | true =>
        rw [q] at tst
        exact .of (StT.ite tst .nil)
      | false =>
        rw [q] at tst h1
        exact .ifT tst (.cons (try_ok ko hK h1) (.of .nil))
    rw [tail_shape]
    exact runSs_p (P:=fun l ρ σ=>ExL G 245 lawSc l ρ σ (.ret (.d (.bool true))) ρ9 σ9) ko (TL_ok ko T) (fun h k=>.cons (.of h) k) tail12 _ _ e _ (.cons l17 (.of (.last (StT.le (StT.run ko (tab0 G) e9) (by decide)))))
  | _=>exact nT h9
theorem lawOk (w : World) (xs : List Int) (o : Obj) (hl : xs.length ≤ 63) (ho : IsScript xs o) : ∃ V : Vx,V.w = w ∧ V.obj 0 = o ∧
    ∀ G : Cx,G.V = V → G.K = KF w.params → ∃ ρ' σ',σ'[0]? = some (.any 0) ∧ ExL G 245 (scOf (stN 152)) (bodyOf (stN 152)) ρ1 [.any 0] (.ret (.d (.bool true))) ρ' σ':=by
  have f0:=frontV w xs o hl ho
  refine ⟨vLaw (kind1 (beadsOf xs)) (kind2 (beadsOf xs)) (decide (drawV ((vOf w xs o).bv 40) 2 = 1)) (vOf w xs o),rfl,rfl,fun G hV hK=>?_⟩
  have hK' : G.K = KF G.w.params:=by rw [hK]; show KF w.params = KF G.V.w.params; rw [hV]; rfl
  have ko : KOk3 G:=kok hK'
  have fv : FrontV G.V xs _ _ _ _:=hV ▸ frontL f0
  have tv : TailV G.V _ _ _ _ _ _ _ _:=hV ▸ tailL f0 (fun k hk=>bv_next 4 (Nat.lt_trans hk (by decide))) rfl
  obtain ⟨ρ',σ',h0,h⟩:=law_tail ko hK' tv
  exact ⟨ρ',σ',h0,front (P:=fun l ρ σ=>ExL G 245 lawSc l ρ σ (.ret (.d (.bool true))) ρ' σ') ko fv (fun h k=>.cons (.of (StT.le h (by decide))) k) h⟩
theorem walk0 : Walk0:=by
  intro w s₀ s₁ mg mb G Y a o pm cd doc dV kV ho hd hcd hD hmg hg args vals as hpre hlay hrd hwl hlo
  obtain ⟨xs,rfl,hlen⟩:=args_of hpre
  have KX : (KF w.params).In s₁.heap:=KF_in Y
  have T:=topRead_of G.T
  have ha : a = 981:=by
    have h2:=mg_of KX T.g ((kf_ok w.params).2.2.2.2.2.2.2.2)
    rw [law_name,h2] at hmg
    exact (Value.ref.inj (Option.some.inj hmg)).symm
  subst ha
  obtain ⟨b,vs,rfl,hb,hds,hbl⟩ : ∃ (b : Addr) (vs : List Value),vals = [.ref b] ∧ s₁.heap.get? b = some (listOf vs.toArray 0) ∧ RelDs [] (intD xs) vs ∧ (b == sysModules) = false:=by
    cases hwl with
    | cons hw1 hw2 =>
      cases hw2
      cases hw1 with
      | @list b vs _ hb hwa =>
        cases hrd with
        | cons r1 r2 =>
          cases r1 with
          | list g1 g2 g3 g4 =>
            rw [hb] at g1
            obtain rfl:=Option.some.inj g1
            cases g3
            exact ⟨b,vs,rfl,hb,ints_vals g4,hlo b (by simp)⟩
  obtain ⟨V,hVw,hVo,L⟩:=lawOk w xs _ hlen ⟨vs,rfl,hds⟩
  obtain ⟨ρ',σ',h0,ex⟩:=L ⟨V,[],KF w.params,q0,looseW q0 loose0,mg,mb⟩ rfl rfl
  have ko : KOk3 ⟨V,[],KF w.params,q0,looseW q0 loose0,mg,mb⟩:=kok (by show KF w.params = KF V.w.params; rw [hVw])
  have I:=ko.def' (a:=981) (st:=stN 152) (ds:=[]) rfl (by kernel_rfl)
  refine wpAny_call ?_
  have one : ∀ {p : Addr × Obj},p ∈ [(b,listOf vs.toArray 0)] → p = (b,listOf vs.toArray 0):=fun hp=>List.mem_singleton.mp hp
  have gr : Gr ⟨V,[],KF w.params,q0,looseW q0 loose0,mg,mb⟩ ⟨callerA,hideAll s₁.heap [b],hideAll s₁.heap [b],[],0,mg,[]⟩ (hideAll s₁.heap [b]) ⟨[(b,listOf vs.toArray 0)],[]⟩ [.any 0] s₁.heap:=by
    refine ⟨below_caller _,zero,fun c o e=>of_hideAll _ e,hideAll_size _ _,fun p hp=>?_,hide_K KX hb,⟨hide_ns hb T.g,hide_ns hb T.b,?_,T.builtins,T.free⟩,fun p hp=>?_,zero,zero,⟨⟨_,[],rfl,hVo.symm,rfl⟩,List.pairwise_singleton _ _,zero⟩⟩
    · rw [one (show p ∈ [(b,listOf vs.toArray 0)] from hp)]
      exact ⟨hb,hideAll_none _ (.head _)⟩
    · obtain ⟨mc,h1,h2⟩:=T.nolimit
      exact ⟨mc,hide_ns hb h1,h2⟩
    · rw [one (show p ∈ [(b,listOf vs.toArray 0)] from hp)]
      exact hbl
  have hM : model row0.toRowW.prog w = Cx.M ⟨V,[],KF w.params,q0,looseW q0 loose0,mg,mb⟩:=by
    show model pw w = model pw V.w
    rw [hVw]
  rw [hM]
  refine enter_grE (n:=250) I.1 I.2 (c:=⟨callerA,hideAll s₁.heap [b],hideAll s₁.heap [b],[],0,mg,[]⟩) (W:=⟨[(b,listOf vs.toArray 0)],[]⟩) (show Room 251 callerA from ⟨rfl,by decide,by decide⟩) gr (args:=[.ref 0]) (.cons ⟨b,rfl,rfl⟩ rfl) law_bind fun env m' cm cs h₁ tk hA' XF E hE hf=>?_
  refine ex (c:=Ct.deep ⟨callerA,hideAll s₁.heap [b],hideAll s₁.heap [b],[],0,mg,[]⟩ (hideAll s₁.heap [b]) env) (s:={ s₁ with heap:=h₁,toks:=tk }) (hA'.le (by decide)) rfl hf XF fun m₂ cm₂ cs₂ h₂ tk₂ W₂ fl X₂ mo fr=>?_
  obtain ⟨v,rfl,rv⟩:=fr
  have rv : v = .bool true:=rv
  subst rv
  refine ⟨.inl ⟨.bool true,.bool true,[],rfl,fun _=>rfl,ReadsW.bool true,post_ok xs,fun _=>⟨List.nodup_nil,fun _ hm=>(nomatch hm)⟩⟩,.of_keep fun c o e=>?_,rfl,.of_eq hg⟩
  by_cases q : c = b
  · subst q
    rw [hb] at e
    obtain rfl:=Option.some.inj e
    have h2:=mo.ad 0 c rfl
    have h2 : (W₂.led.map (·.1))[0]? = some c:=h2
    rw [List.getElem?_map] at h2
    obtain ⟨p,hp,e2⟩:=Option.map_eq_some_iff.mp h2
    obtain ⟨p',hp',r⟩:=X₂.Y.S.rel.get h0
    rw [hp] at hp'
    obtain rfl:=Option.some.inj hp'
    have h3:=(X₂.Y.N p (mem3.mpr (.inr (.inl (List.mem_of_getElem? hp))))).1
    rw [e2] at h3
    rw [h3,(show p.2 = V.obj 0 from r),hVo]
  · exact X₂.Y.F.keep c o (hideAll_get _ e fun h=>q (List.mem_singleton.mp h))
theorem holdsAll : rw0.Holds:=head walk0
end Mine
theorem PySem.Challenge.cw_sm0116_01_holds : PySem.Challenge.rw_sm0116_01.Holds :=
  Mine.holdsAll
