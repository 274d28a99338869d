import PyProof.Rows.All
import Wide.All
import OpenK.AllK
import Wide.FinOn
import PySem.Challenge.RW_xm0318_01
set_option Elab.async false
set_option maxRecDepth 100000
set_option linter.all false
set_option genSizeOf false
set_option genSizeOfSpec false
set_option compiler.extract_closed false
set_option bootstrap.genMatcherCode false
section
set_option maxHeartbeats 8000000
set_option genInjectivity false
namespace Mine.Hd
open PySem PySem.W PySem.Calls PyProof.Rows
noncomputable abbrev p0:Program:=PySem.Challenge.rw_xm0318_01.row.prog
noncomputable abbrev env0:Env:={scope:=p0.main.scope,locals:=mainNs,globals:=mainNs,cells:=[],code:=.ref 13,frame:=some 14}
noncomputable abbrev bE:List Stmt:=behindTheImports p0
noncomputable abbrev cE:Code:=.body bE env0
noncomputable abbrev z0:Pos:=⟨0,0,0,0⟩
noncomputable abbrev fr0:List Frame:=[topFrame z0]
noncomputable abbrev ann0:Option Value:=some (.ref 6)
noncomputable abbrev S0 (w:World) (os:OsState):Shared:=⟨boot_heap w.params,#[],boot_drawn,boot_toks,os⟩
noncomputable abbrev twGo:=@PySem.W.Fast.tw15667345088766844465
noncomputable abbrev twTb:=@PySem.W.Fast.tw14364793385576792824
structure Z where
 os:List Obj
 n:Nat
 t:Nat
 ns:List DictEntry
 cs:List Value
 nm:Value
noncomputable def ky (P:Params) (x:Str) (t:Nat) (v:Value):DictEntry:=⟨PyData.keyHash P x,.str x t,v⟩
noncomputable def ri (n:Nat):Value:=.int n 0
noncomputable def tks:List Str→Nat→List Value
 | [],_=>[]
 | x::l,t=>.str x t::tks l (t+1)
noncomputable def tupO (l:List Value):Obj:={cls:=.type "tuple",data:=.seq l.toArray}
noncomputable def fldO (l:List Value):Obj:={cls:=.none,data:=.fields l.toArray}
noncomputable def fileS:Str:=p0.main.file
noncomputable def locO (lc:Option (List Str×List Str)) (t:Nat):List Obj:=match lc with
 | none=>[]
 | some (a,b)=>[tupO (tks a t),tupO (tks b (t+a.length))]
noncomputable def locN (lc:Option (List Str×List Str)):Nat:=match lc with
 | none=>0
 | some (a,b)=>a.length+b.length
noncomputable def codO (a t:Nat) (nm q:Str) (line np fl:Nat) (isF:Bool) (pl:List Value) (lc:Option (List Str×List Str)) (tm:Option FuncData):List Obj :=
 let u:=t+3+locN lc
 let b:=a+2+(match lc with|none=>0|some _=>2)
 let c:=b+(match tm with|none=>0|some _=>1)
 tupO []::fldO pl::(locO lc (t+3)++(match tm with|none=>[]|some fd=>[{cls:=.none,data:=.func fd}]) ++
  [{cls:=.type "code",data:=.fields #[.str nm t,.str q (t+1),.str fileS (t+2),ri line,ri np,ri 0,ri 0,ri fl,.ref a,.bool isF,ri 181,.ref (a+1),.none,
   (match lc with|none=>.none|some _=>.ref (a+2)),(match lc with|none=>.none|some _=>.ref (a+3)),(match tm with|none=>.none|some _=>.ref b),ri u,ri line,.str fileS (u+1)]}])
noncomputable def defO (a t:Nat) (mod:Value) (pre nm:Str) (args:Arguments) (body:List Stmt) (sc:Scope) (line:Nat):List Obj×Nat×Nat :=
 let lc:=localNames args sc (.stmts body)
 let q:=pre++nm
 let c:=a+3+(match lc with|none=>0|some _=>2)
 (codO a t nm q line args.args.length 3 true [] lc (some {name:=nm,qualname:=q,params:=args,body:=.stmts body,scope:=sc,globals:=0,closure:=[],defaults:=.none,kwdefaults:=.none}) ++
  [{cls:=.type "function",data:=.func {name:=nm,qualname:=q,params:=args,body:=.stmts body,scope:=sc,globals:=3,closure:=[],defaults:=.none,kwdefaults:=.none,pyModule:=mod,code:=.ref c}}],
  c+1,t+5+locN lc)
noncomputable def mthO (P:Params) (mod:Value) (pre:Str):List Stmt→Nat→Nat→List Obj×List DictEntry×List Value×Nat×Nat
 | .FunctionDef nm args body _ _ _ sc _ _ pos::l,a,t =>
  let d:=defO a t mod pre nm args body sc pos.line
  let r:=mthO P mod pre l (d.2.1+1) (d.2.2+1)
  (d.1++r.1,ky P nm d.2.2 (.ref d.2.1)::r.2.1,ri pos.line::ri pos.col::.ref (d.2.1-1)::r.2.2.1,r.2.2.2)
 | _::l,a,t=>mthO P mod pre l a t
 | [],a,t=>([],[],[],a,t)
noncomputable def clsO (P:Params) (z:Z) (nm:Str) (k:Nat) (body:List Stmt) (st:List Str) (line col:Nat):Z :=
 let a:=z.n
 let t:=z.t
 let m:=mthO P z.nm (nm++".") body (a+7) (t+12)
 let s:=m.2.2.2.1
 let u:=m.2.2.2.2
 let v:=u+st.length
 let c:=s+2
 let dct:List Obj:=match k with|0=>[{cls:=.type "getset_descriptor",data:=.fields #[.str "__dict__" (v+1),.ref c,.builtin "function.__dict__",.builtin "function.__dict__#set"]}]|_=>[]
 let v1:=v+1+2*dct.length
 let c1:=c+1+dct.length
 let wk:List Obj:=match k with|0|1=>[{cls:=.type "getset_descriptor",data:=.fields #[.str "__weakref__" v1,.ref c,.builtin "ExceptionGroup.__weakref__",.none]}]|_=>[]
 let v2:=v1+2*wk.length
 let c2:=c1+wk.length
 let v3:=v2+(match k with|1=>3|_=>1)
 let base:List Value:=match k with|0=>[.type "object"]|1=>[.type "Exception"]|2=>[.ref 129]|_=>[.ref 836]
 let mro:List Value:=match k with|0=>[.type "object"]|1=>[.type "Exception",.type "BaseException",.type "object"]|2=>[.ref 129,.type "Exception",.type "BaseException",.type "object"]|_=>[.ref 836,.type "object"]
 let e1:=ky P "__module__" (t+7) z.nm
 let e2:=ky P "__firstlineno__" (t+11) (.int line (t+10))
 let es:=m.2.1++[ky P "__static_attributes__" v (.ref s)]
 let es1:=e1::ky P "__qualname__" (t+9) (.str nm (t+8))::e2::es
 let es2:=e1::e2::es++(match k with|0=>[ky P "__dict__" (v+2) (.ref (c+1))]|_=>[])++(match k with|0|1=>[ky P "__weakref__" (v1+1) (.ref c1)]|_=>[])++[ky P "__doc__" v2 .none]
 let cd:=codO (a+3) (t+2) nm nm line 0 0 false m.2.2.1 none none
 let os:List Obj:=tupO (match k with|0=>[]|_=>base)::{cls:=.type "builtin_function_or_method",data:=.fields #[.builtin "type.__prepare__",.type "type"]} ::
  {cls:=.type "dict",data:=.dict es1.toArray es1.length}::cd ++
  {cls:=.type "frame",slots:=#[some (.ref (a+5)),some (.ref 3),some (.ref (a+2)),none,some z.nm,none,some (.ref 0)]}::m.1 ++
  tupO (tks st u)::{cls:=.type "dict",data:=.dict es2.toArray (1+dct.length+wk.length+1)} ::
  {cls:=.type "type",data:=.cls {name:=nm,bases:=base,mro:=.ref c::mro,ns:=s+1,qualname:=nm,subclasses:=match k with|1=>[.ref 142]|_=>match nm=="Tray" with|true=>[.ref 906]|false=>[]},
   slots:=#[(match k with|0=>none|_=>some (.ref a)),none,some (.str nm t),some (.str nm (t+8)),some (.builtin (match k with|0|3=>"object.__new__" | _=>"Exception.__new__")),some (.bool true)]} ::
  dct++wk++[{cls:=.type "super",data:=.fields #[.ref c,.ref c,.ref c]},{cls:=.type "builtin_function_or_method",data:=.fields #[.builtin "object.__init_subclass__",.ref c]}]
 {z with os:=os.reverse++z.os,n:=c2+2,t:=v3+2,ns:=ky P nm (v3+1) (.ref c)::z.ns,cs:=.ref (a+5)::ri col::ri line::z.cs}
noncomputable def conO:Const→Nat→Value
 | .int i,t=>.int i t
 | .str s,t=>.str s t
 | _,_=>.none
noncomputable def conL:List PySem.Expr→Nat→List Value
 | .Constant c _ _::l,t=>conO c t::conL l (t+1)
 | _::l,t=>conL l t
 | [],_=>[]
noncomputable def tidE:List Int→Nat→List DictEntry
 | k::l,i=>⟨hashInt k,.int k (453+i),.int i (395+2*i)⟩::tidE l (i+1)
 | [],_=>[]
noncomputable def stO (P:Params) (z:Z):Stmt→Z
 | .FunctionDef nm args body _ _ _ sc _ _ pos =>
  let d:=defO z.n z.t z.nm "" nm args body sc pos.line
  {z with os:=d.1.reverse++z.os,n:=d.2.1+1,t:=d.2.2+1,ns:=ky P nm d.2.2 (.ref d.2.1)::z.ns,cs:=.ref (d.2.1-1)::ri pos.col::ri pos.line::z.cs}
 | .ClassDef nm bases _ body _ _ _ _ _ st pos=>clsO P z nm (match bases with|[]=>0|_=>match nm=="RuneError",nm=="BadKind" with|true,_=>1|false,true=>2|false,false=>3) body st pos.line pos.col
 | .Assign [.Name x _] e _=>match e with
  | .Constant c _ _=>match x=="__name__" with
   | true=>{z with t:=z.t+2,nm:=conO c z.t}
   | false=>{z with t:=z.t+2,ns:=ky P x (z.t+1) (conO c z.t)::z.ns}
  | .UnaryOp _ (.Constant (.int i) _ _) _=>{z with t:=z.t+3,ns:=ky P x (z.t+2) (.int (-i) (z.t+1))::z.ns}
  | .Tuple l _ _=>{z with os:=tupO (conL l z.t)::z.os,n:=z.n+1,t:=z.t+l.length+1,ns:=ky P x (z.t+l.length) (.ref z.n)::z.ns}
  | _=>{z with os:={cls:=.type "dict",data:=.dict (tidE [20,9,10,11,12,13,14,15,16,17,18,19,1,4] 0).toArray 14}::z.os,n:=z.n+1,t:=z.t+29,ns:=ky P x (z.t+28) (.ref z.n)::z.ns}
 | _=>z
noncomputable def z00:Z:=⟨[],15,187,[],[],.str "__main__" 164⟩
noncomputable def low (i:Nat) (P:Params) (z:Z):List Obj:=match (boot_heap P).objs.toList with
 | a::b::_::d::l=>a::b::{cls:=.none,data:=match i with
   | 0|1|2|3=>.dict #[] 0
   | _=>.dict #[ky P "type.__subclasses__.Exception.0" 373 (.int 129 0),ky P "type.__subclasses__.Exception.n" 374 (.int 1 0)] 2} ::
  {d with data:=match d.data with
   | .dict es _=>match es.toList with
    | e::es=>.dict ({e with val:=z.nm}::es++z.ns.reverse).toArray (9+z.ns.length)
    | []=>.plain
   | _=>.plain}::l ++
  [tupO [],fldO z.cs.reverse,{cls:=.type "code",data:=.fields #[.str "<module>" 182,.str "<module>" 183,.str fileS 184,ri 1,ri 0,ri 0,ri 0,ri 0,.ref 11,.bool false,ri 181,.ref 12,.none,.none,.none,.none,ri 185,ri 1,.str fileS 186]},
   {cls:=.type "frame",slots:=#[some (.ref 13),some (.ref 3),some (.ref 3),none,some (.str "__main__" 164),none,some (.ref 0)]}]
 | _=>[]
noncomputable def objs (i:Nat) (P:Params) (z:Z):List Obj:=low i P z++z.os.reverse
noncomputable def alt:List Obj→List Obj
 | a::_::l=>a::alt l
 | l=>l
noncomputable def bt:Nat→List Obj→BT
 | f+1,o::l=>.node o (bt f (alt l)) (bt f (alt l.tail))
 | _,_=>.nil
noncomputable def stT (i:Nat) (P:Params) (z:Z) (os:OsState):SharedT:=⟨bt 12 (objs i P z),z.n,{},#[],{},z.t,os⟩
noncomputable def cuts:List Nat:=[0,7,9,17,19,50,51,102,103,111,112,129,130,140,144,146,155,156,157,158,181]
noncomputable def slice (i:Nat):List Stmt:=(bE.drop (cuts.getD i 0)).take (cuts.getD (i+1) 0-cuts.getD i 0)
noncomputable def z1 (P:Params):Z:=(slice 0).foldl (stO P) (z00)
noncomputable def z2 (P:Params):Z:=(slice 1).foldl (stO P) (z1 P)
noncomputable def z3 (P:Params):Z:=(slice 2).foldl (stO P) (z2 P)
noncomputable def z4 (P:Params):Z:=(slice 3).foldl (stO P) (z3 P)
noncomputable def z5 (P:Params):Z:=(slice 4).foldl (stO P) (z4 P)
noncomputable def z6 (P:Params):Z:=(slice 5).foldl (stO P) (z5 P)
noncomputable def z7 (P:Params):Z:=(slice 6).foldl (stO P) (z6 P)
noncomputable def z8 (P:Params):Z:=(slice 7).foldl (stO P) (z7 P)
noncomputable def z9 (P:Params):Z:=(slice 8).foldl (stO P) (z8 P)
noncomputable def z10 (P:Params):Z:=(slice 9).foldl (stO P) (z9 P)
noncomputable def z11 (P:Params):Z:=(slice 10).foldl (stO P) (z10 P)
noncomputable def z12 (P:Params):Z:=(slice 11).foldl (stO P) (z11 P)
noncomputable def z13 (P:Params):Z:=(slice 12).foldl (stO P) (z12 P)
noncomputable def z14 (P:Params):Z:=(slice 13).foldl (stO P) (z13 P)
noncomputable def z15 (P:Params):Z:=(slice 14).foldl (stO P) (z14 P)
noncomputable def z16 (P:Params):Z:=(slice 15).foldl (stO P) (z15 P)
noncomputable def z17 (P:Params):Z:=(slice 16).foldl (stO P) (z16 P)
noncomputable def z18 (P:Params):Z:=(slice 17).foldl (stO P) (z17 P)
noncomputable def z19 (P:Params):Z:=(slice 18).foldl (stO P) (z18 P)
noncomputable def z20 (P:Params):Z:=(slice 19).foldl (stO P) (z19 P)
noncomputable def posS:Stmt→Pos
 | .FunctionDef _ _ _ _ _ _ _ _ _ p=>p
 | .ClassDef _ _ _ _ _ _ _ _ _ _ p=>p
 | .Assign [.Name _ p] _ _=>p
 | _=>z0
noncomputable def pAt:Nat→Pos
 | 0=>z0
 | i+1=>match (slice i).getLast? with|some s=>posS s|none=>z0
noncomputable abbrev twSeg:=@PySem.W.Fast.tw10110043849684766642
noncomputable def Pc (i:Nat) (z y:Params→Z):Prop:=∀ w:World,(fun os=>twSeg twTb p0 w 11 ann0 1 2000 (stT i w.params (z w.params) os) (piecesOf (slice i) env0 cE (pAt i) fr0))=fun os=>some (Flow.next,stT (i+1) w.params (y w.params) os,cE,pAt (i+1))
noncomputable abbrev rowN:String:="special-get-raises"
theorem pc4:Pc 4 z4 z5:=fun w=>byRow2 rowN (P:=fun w=>(fun os=>twSeg twTb p0 w 11 ann0 1 2000 (stT 4 w.params (z4 w.params) os) (piecesOf (slice 4) env0 cE (pAt 4) fr0))=fun os=>some (Flow.next,stT 5 w.params (z5 w.params) os,cE,pAt 5)) (fun w=>by kernel_rfl) (fun w=>by kernel_rfl) w
theorem pc0:Pc 0 (fun _=>z00) z1:=fun w=>by kernel_rfl
theorem pc1:Pc 1 z1 z2:=fun w=>by kernel_rfl
theorem pc2:Pc 2 z2 z3:=fun w=>by kernel_rfl
theorem pc3:Pc 3 z3 z4:=fun w=>by kernel_rfl
theorem pc5:Pc 5 z5 z6:=fun w=>by kernel_rfl
theorem pc6:Pc 6 z6 z7:=fun w=>by kernel_rfl
theorem pc7:Pc 7 z7 z8:=fun w=>by kernel_rfl
theorem pc8:Pc 8 z8 z9:=fun w=>by kernel_rfl
theorem pc9:Pc 9 z9 z10:=fun w=>by kernel_rfl
theorem pc10:Pc 10 z10 z11:=fun w=>by kernel_rfl
theorem pc11:Pc 11 z11 z12:=fun w=>by kernel_rfl
theorem pc12:Pc 12 z12 z13:=fun w=>by kernel_rfl
theorem pc13:Pc 13 z13 z14:=fun w=>by kernel_rfl
theorem pc14:Pc 14 z14 z15:=fun w=>by kernel_rfl
theorem pc15:Pc 15 z15 z16:=fun w=>by kernel_rfl
theorem pc16:Pc 16 z16 z17:=fun w=>by kernel_rfl
theorem pc17:Pc 17 z17 z18:=fun w=>by kernel_rfl
theorem pc18:Pc 18 z18 z19:=fun w=>by kernel_rfl
theorem pc19:Pc 19 z19 z20:=fun w=>by kernel_rfl
theorem pre_tw (w:World):(fun os=>twGo twTb p0 w 11 ann0 12 (S0 w os) (topStub p0))=fun os=>some ((stT 0 w.params z00 os).abs,⟨PySem.W.Fast.tw11892475500146522536 twTb cE,cE,z0,fr0⟩):=by kernel_rfl
theorem blk_tw (w:World):(fun os=>PySem.W.Fast.tw14374325043358763698 twTb p0 w 11 ann0 1 1 (stT 0 w.params z00 os).abs (blockOf bE env0 cE z0 fr0))=fun os=>some (Flow.next,(stT 0 w.params z00 os).abs,cE,z0):=by kernel_rfl
theorem pre_ok (w:World) (os:OsState):topGo treeTable p0 w 11 ann0 12 (S0 w os) (topStub p0)=some ((stT 0 w.params z00 os).abs,⟨denote treeTable cE,cE,z0,fr0⟩):=by
 rw [PySem.W.Fast.te15667345088766844465,PySem.W.Fast.te14364793385576792824,PySem.W.Fast.te11892475500146522536]
 exact congrFun (pre_tw w) os
theorem blk_ok (w:World) (os:OsState):segRun treeTable p0 w 11 ann0 1 1 (stT 0 w.params z00 os).abs (blockOf bE env0 cE z0 fr0)=some (Flow.next,(stT 0 w.params z00 os).abs,cE,z0):=by
 rw [PySem.W.Fast.te14374325043358763698,PySem.W.Fast.te14364793385576792824]
 exact congrFun (blk_tw w) os
theorem Pc.seg {i:Nat} {z y:Params→Z} (h:Pc i z y) (w:World) (os:OsState):segRun treeTable p0 w 11 ann0 1 2000 (stT i w.params (z w.params) os).abs (piecesOf (slice i) env0 cE (pAt i) fr0)=some (Flow.next,(stT (i+1) w.params (y w.params) os).abs,cE,pAt (i+1)):=by
 refine segRun_of ?_
 rw [PySem.W.Fast.te10110043849684766642,PySem.W.Fast.te14364793385576792824]
 exact congrFun (h w) os
section
variable {i N:Nat} {z y:Params→Z} {w:World} {os:OsState} {rest:List Stmt} {r:Shared}
theorem Pc.go (h:Pc i z y) (k:topRun treeTable p0 w 11 ann0 N (stT (i+1) w.params (y w.params) os).abs (restOf rest env0 cE (pAt (i+1)) fr0)=some r) :
  topRun treeTable p0 w 11 ann0 (2000+N) (stT i w.params (z w.params) os).abs (restOf (slice i++rest) env0 cE (pAt i) fr0)=some r:=piece_app (h.seg w os) k
end
theorem fin_eq (w:World) (s:Shared) (pos:Pos):topRun treeTable p0 w 11 ann0 2 s ⟨doneF .next,cE,pos,fr0⟩=some s:=by rfl
theorem bE_eq:bE=slice 0++( slice 1++( slice 2++( slice 3++( slice 4++( slice 5++( slice 6++( slice 7++( slice 8++( slice 9++( slice 10++( slice 11++( slice 12++( slice 13++( slice 14++( slice 15++( slice 16++( slice 17++( slice 18++( slice 19++( [] )))))))))))))))))))):=by kernel_rfl
noncomputable def L (P:Params):List Obj:=objs 20 P (z20 P)
noncomputable def H1 (P:Params):Heap:=⟨(L P).toArray,{}⟩
theorem last_eq (P:Params):(fun os=>(stT 20 P (z20 P) os).abs)=fun os=>(⟨H1 P,Array.mk [],{},2058,os⟩:Shared):=by kernel_rfl
theorem run_ok (w:World) (os:OsState):topRun treeTable p0 w 11 ann0 (12+(1+(2000+(2000+(2000+(2000+(2000+(2000+(2000+(2000+(2000+(2000+(2000+(2000+(2000+(2000+(2000+(2000+(2000+(2000+(2000+(2000+2 )))))))))))))))))))))) (S0 w os) (topStub p0)=some ⟨H1 w.params,Array.mk [],{},2058,os⟩:=by
 refine go_top (pre_ok w os) (piece_block (blk_ok w os) ?_)
 refine (congrArg (fun l=>topRun treeTable p0 w 11 ann0 _ _ (restOf l env0 cE z0 [topFrame z0])=_) bE_eq).mpr ?_
 refine pc0.go ( pc1.go ( pc2.go ( pc3.go ( pc4.go ( pc5.go ( pc6.go ( pc7.go ( pc8.go ( pc9.go ( pc10.go ( pc11.go ( pc12.go ( pc13.go ( pc14.go ( pc15.go ( pc16.go ( pc17.go ( pc18.go ( pc19.go ( piece_nil ?_ ))))))))))))))))))))
 rw [show (stT (19+1) w.params (z20 w.params) os).abs=_ from congrFun (last_eq w.params) os]
 exact fin_eq _ _ _
noncomputable def looseNames:List Str:=p0.boundNames.filter fun x=>!(x=="law"||x=="__name__")
noncomputable def lawStmt:Stmt:=(PySem.Challenge.pw_xm0318_01.main.body.getLast?).getD (.Pass ⟨0,0,0,0⟩)
noncomputable def lawView:Program:={PySem.Challenge.pw_xm0318_01 with main:={PySem.Challenge.pw_xm0318_01.main with body:=[lawStmt]}}
noncomputable def lawRec:DefRec:=match lawStmt with
 | .FunctionDef name args body _ _ _ scope _ _ pos=>{name:=name,params:=args,body:=body,scope:=scope,pos:=pos}
 | _=>{name:="",params:=⟨[],[],none,[],[],none,[]⟩,body:=[],scope:=⟨.function,[],false,false,[]⟩,pos:=⟨0,0,0,0⟩}
noncomputable def X0 (s:Shared):Bool:=recOk [] s
theorem open_ok:∀ w:World,(fencedOpening treeTable p0 w 42000).map (fun s=>(s.heap,s.gens,s.drawn,s.toks))=some (boot_heap w.params,Array.mk [],boot_drawn,boot_toks):=boot_open (by rfl) (by rfl) fun _=>by rfl
theorem size_ok (w:World):((boot_heap w.params).isNs mainGlobals&&(Array.mk []:Array GenState).size==0,(boot_heap w.params).objs.size,(boot_heap w.params).nsMap mainGlobals "__annotations__")=(true,11,ann0):=by kernel_rfl
noncomputable abbrev s1 (w:World) (os:OsState):Shared:=⟨H1 w.params,Array.mk [],{},2058,os⟩
theorem chk_tw (w:World):(fun os=>staticsOk (PySem.W.Fast.tw5923862056798008813 p0.main.body) (boot_heap w.params) (H1 w.params)&&namesBound p0 (H1 w.params)&&gensDone (s1 w os)&&laidKept (boot_heap w.params) (H1 w.params))=fun _=>true:=by kernel_rfl
theorem seen_tw (w:World):(fun os=>PySem.W.Fast.tw4187177175401517315 lawView looseNames (PySem.W.Fast.tw5923862056798008813 p0.main.body) X0 true (s1 w os))=fun _=>openGood lawView looseNames:=by kernel_rfl
section
open PySem.W.Fast
theorem sd1:tw8377067652309620493 p0=true:=by kernel_rfl
theorem sd2:tw8326940854005059898 {strict:=!R.allR (tw5923862056798008813 p0.main.body) (tw3471404346716756564 tw17691160309236699985),foot:=none,bare:=R.filterR (tw13343964577679436407 p0 p0.main.body) [⟨⟨[118,97,114,115]⟩⟩,⟨⟨[100,105,114]⟩⟩,⟨⟨[108,111,99,97,108,115]⟩⟩]} p0.main.body=true:=by kernel_rfl
theorem sd3:tw17119622794617984870 p0 p0.main.body (fun _ n=>tw17868728402115742887 n)=true:=by kernel_rfl
theorem sd4:tw12908688711261696721 p0=true:=by
 delta tw12908688711261696721
 exact look_both (look_both (look_both (look_both (by kernel_rfl) (by kernel_rfl)) sd1) (by kernel_rfl)) sd2 |> fun q=>look_both q sd3
theorem sd5:tw12908688711261696721 (tw2368527892694137696 PySem.Challenge.rw_xm0318_01).toRowW.prog=true:=sd4
theorem sd6:tw17960256430627541270 (tw2368527892694137696 PySem.Challenge.rw_xm0318_01)=true:=by
 delta tw17960256430627541270 tw2436336058641802641
 repeat' (with_reducible refine look_both ?_ ?_)
 all_goals first|with_reducible exact sd5|kernel_rfl
theorem said:PySem.Challenge.rw_xm0318_01.wellSaid=true:=by
 rw [te9446332074065402090]
 delta tw9446332074065402090
 repeat' (with_reducible refine look_both ?_ ?_)
 all_goals first|with_reducible exact sd6|kernel_rfl
end
end Mine.Hd
end
set_option genInjectivity true
namespace Mine
theorem ea0_1 {A B:Prop} {G:Prop} (e:A∧B) (k:A→B→G):G:=k e.1 e.2
theorem ea0_2 {A B C:Prop} {G:Prop} (e:A∧B∧C) (k:A→B→C→G):G:=k e.1 e.2.1 e.2.2
theorem ea0_3 {A B C D:Prop} {G:Prop} (e:A∧B∧C∧D) (k:A→B→C→D→G):G:=k e.1 e.2.1 e.2.2.1 e.2.2.2
theorem ea0_4 {A B C D E:Prop} {G:Prop} (e:A∧B∧C∧D∧E) (k:A→B→C→D→E→G):G:=k e.1 e.2.1 e.2.2.1 e.2.2.2.1 e.2.2.2.2
theorem ea0_5 {A B C D E F:Prop} {G:Prop} (e:A∧B∧C∧D∧E∧F) (k:A→B→C→D→E→F→G):G:=k e.1 e.2.1 e.2.2.1 e.2.2.2.1 e.2.2.2.2.1 e.2.2.2.2.2
theorem ea0_6 {A B C D E F H:Prop} {G:Prop} (e:A∧B∧C∧D∧E∧F∧H) (k:A→B→C→D→E→F→H→G):G:=k e.1 e.2.1 e.2.2.1 e.2.2.2.1 e.2.2.2.2.1 e.2.2.2.2.2.1 e.2.2.2.2.2.2
theorem ea0_7 {A B C D E F H I:Prop} {G:Prop} (e:A∧B∧C∧D∧E∧F∧H∧I) (k:A→B→C→D→E→F→H→I→G):G:=k e.1 e.2.1 e.2.2.1 e.2.2.2.1 e.2.2.2.2.1 e.2.2.2.2.2.1 e.2.2.2.2.2.2.1 e.2.2.2.2.2.2.2
theorem ea0_8 {A B C D E F H I J:Prop} {G:Prop} (e:A∧B∧C∧D∧E∧F∧H∧I∧J) (k:A→B→C→D→E→F→H→I→J→G):G:=k e.1 e.2.1 e.2.2.1 e.2.2.2.1 e.2.2.2.2.1 e.2.2.2.2.2.1 e.2.2.2.2.2.2.1 e.2.2.2.2.2.2.2.1 e.2.2.2.2.2.2.2.2
theorem ea0_9 {A B C D E F H I J L:Prop} {G:Prop} (e:A∧B∧C∧D∧E∧F∧H∧I∧J∧L) (k:A→B→C→D→E→F→H→I→J→L→G):G:=k e.1 e.2.1 e.2.2.1 e.2.2.2.1 e.2.2.2.2.1 e.2.2.2.2.2.1 e.2.2.2.2.2.2.1 e.2.2.2.2.2.2.2.1 e.2.2.2.2.2.2.2.2.1 e.2.2.2.2.2.2.2.2.2
theorem ea0_10 {A B C D E F H I J L M:Prop} {G:Prop} (e:A∧B∧C∧D∧E∧F∧H∧I∧J∧L∧M) (k:A→B→C→D→E→F→H→I→J→L→M→G):G:=k e.1 e.2.1 e.2.2.1 e.2.2.2.1 e.2.2.2.2.1 e.2.2.2.2.2.1 e.2.2.2.2.2.2.1 e.2.2.2.2.2.2.2.1 e.2.2.2.2.2.2.2.2.1 e.2.2.2.2.2.2.2.2.2.1 e.2.2.2.2.2.2.2.2.2.2
theorem ea1_0 {α0:Sort _} {A:α0→Prop} {G:Prop} (e:∃ x0,A x0) (k:∀ x0,A x0→G):G:=e.elim fun x0 h=>k x0 h
theorem ea1_1 {α0:Sort _} {A B:α0→Prop} {G:Prop} (e:∃ x0,A x0∧B x0) (k:∀ x0,A x0→B x0→G):G:=e.elim fun x0 h=>k x0 h.1 h.2
theorem ea1_2 {α0:Sort _} {A B C:α0→Prop} {G:Prop} (e:∃ x0,A x0∧B x0∧C x0) (k:∀ x0,A x0→B x0→C x0→G):G:=e.elim fun x0 h=>k x0 h.1 h.2.1 h.2.2
theorem ea1_3 {α0:Sort _} {A B C D:α0→Prop} {G:Prop} (e:∃ x0,A x0∧B x0∧C x0∧D x0) (k:∀ x0,A x0→B x0→C x0→D x0→G):G:=e.elim fun x0 h=>k x0 h.1 h.2.1 h.2.2.1 h.2.2.2
theorem ea1_4 {α0:Sort _} {A B C D E:α0→Prop} {G:Prop} (e:∃ x0,A x0∧B x0∧C x0∧D x0∧E x0) (k:∀ x0,A x0→B x0→C x0→D x0→E x0→G):G:=e.elim fun x0 h=>k x0 h.1 h.2.1 h.2.2.1 h.2.2.2.1 h.2.2.2.2
theorem ea1_5 {α0:Sort _} {A B C D E F:α0→Prop} {G:Prop} (e:∃ x0,A x0∧B x0∧C x0∧D x0∧E x0∧F x0) (k:∀ x0,A x0→B x0→C x0→D x0→E x0→F x0→G):G:=e.elim fun x0 h=>k x0 h.1 h.2.1 h.2.2.1 h.2.2.2.1 h.2.2.2.2.1 h.2.2.2.2.2
theorem ea1_6 {α0:Sort _} {A B C D E F H:α0→Prop} {G:Prop} (e:∃ x0,A x0∧B x0∧C x0∧D x0∧E x0∧F x0∧H x0) (k:∀ x0,A x0→B x0→C x0→D x0→E x0→F x0→H x0→G):G:=e.elim fun x0 h=>k x0 h.1 h.2.1 h.2.2.1 h.2.2.2.1 h.2.2.2.2.1 h.2.2.2.2.2.1 h.2.2.2.2.2.2
theorem ea1_7 {α0:Sort _} {A B C D E F H I:α0→Prop} {G:Prop} (e:∃ x0,A x0∧B x0∧C x0∧D x0∧E x0∧F x0∧H x0∧I x0) (k:∀ x0,A x0→B x0→C x0→D x0→E x0→F x0→H x0→I x0→G):G:=e.elim fun x0 h=>k x0 h.1 h.2.1 h.2.2.1 h.2.2.2.1 h.2.2.2.2.1 h.2.2.2.2.2.1 h.2.2.2.2.2.2.1 h.2.2.2.2.2.2.2
theorem ea1_8 {α0:Sort _} {A B C D E F H I J:α0→Prop} {G:Prop} (e:∃ x0,A x0∧B x0∧C x0∧D x0∧E x0∧F x0∧H x0∧I x0∧J x0) (k:∀ x0,A x0→B x0→C x0→D x0→E x0→F x0→H x0→I x0→J x0→G):G:=e.elim fun x0 h=>k x0 h.1 h.2.1 h.2.2.1 h.2.2.2.1 h.2.2.2.2.1 h.2.2.2.2.2.1 h.2.2.2.2.2.2.1 h.2.2.2.2.2.2.2.1 h.2.2.2.2.2.2.2.2
theorem ea1_9 {α0:Sort _} {A B C D E F H I J L:α0→Prop} {G:Prop} (e:∃ x0,A x0∧B x0∧C x0∧D x0∧E x0∧F x0∧H x0∧I x0∧J x0∧L x0) (k:∀ x0,A x0→B x0→C x0→D x0→E x0→F x0→H x0→I x0→J x0→L x0→G):G:=e.elim fun x0 h=>k x0 h.1 h.2.1 h.2.2.1 h.2.2.2.1 h.2.2.2.2.1 h.2.2.2.2.2.1 h.2.2.2.2.2.2.1 h.2.2.2.2.2.2.2.1 h.2.2.2.2.2.2.2.2.1 h.2.2.2.2.2.2.2.2.2
theorem ea1_10 {α0:Sort _} {A B C D E F H I J L M:α0→Prop} {G:Prop} (e:∃ x0,A x0∧B x0∧C x0∧D x0∧E x0∧F x0∧H x0∧I x0∧J x0∧L x0∧M x0) (k:∀ x0,A x0→B x0→C x0→D x0→E x0→F x0→H x0→I x0→J x0→L x0→M x0→G):G:=e.elim fun x0 h=>k x0 h.1 h.2.1 h.2.2.1 h.2.2.2.1 h.2.2.2.2.1 h.2.2.2.2.2.1 h.2.2.2.2.2.2.1 h.2.2.2.2.2.2.2.1 h.2.2.2.2.2.2.2.2.1 h.2.2.2.2.2.2.2.2.2.1 h.2.2.2.2.2.2.2.2.2.2
theorem ea2_0 {α0:Sort _} {α1:Sort _} {A:α0→α1→Prop} {G:Prop} (e:∃ x0 x1,A x0 x1) (k:∀ x0 x1,A x0 x1→G):G:=e.elim fun x0 q0=>q0.elim fun x1 h=>k x0 x1 h
theorem ea2_1 {α0:Sort _} {α1:Sort _} {A B:α0→α1→Prop} {G:Prop} (e:∃ x0 x1,A x0 x1∧B x0 x1) (k:∀ x0 x1,A x0 x1→B x0 x1→G):G:=e.elim fun x0 q0=>q0.elim fun x1 h=>k x0 x1 h.1 h.2
theorem ea2_2 {α0:Sort _} {α1:Sort _} {A B C:α0→α1→Prop} {G:Prop} (e:∃ x0 x1,A x0 x1∧B x0 x1∧C x0 x1) (k:∀ x0 x1,A x0 x1→B x0 x1→C x0 x1→G):G:=e.elim fun x0 q0=>q0.elim fun x1 h=>k x0 x1 h.1 h.2.1 h.2.2
theorem ea2_3 {α0:Sort _} {α1:Sort _} {A B C D:α0→α1→Prop} {G:Prop} (e:∃ x0 x1,A x0 x1∧B x0 x1∧C x0 x1∧D x0 x1) (k:∀ x0 x1,A x0 x1→B x0 x1→C x0 x1→D x0 x1→G):G:=e.elim fun x0 q0=>q0.elim fun x1 h=>k x0 x1 h.1 h.2.1 h.2.2.1 h.2.2.2
theorem ea2_4 {α0:Sort _} {α1:Sort _} {A B C D E:α0→α1→Prop} {G:Prop} (e:∃ x0 x1,A x0 x1∧B x0 x1∧C x0 x1∧D x0 x1∧E x0 x1) (k:∀ x0 x1,A x0 x1→B x0 x1→C x0 x1→D x0 x1→E x0 x1→G):G:=e.elim fun x0 q0=>q0.elim fun x1 h=>k x0 x1 h.1 h.2.1 h.2.2.1 h.2.2.2.1 h.2.2.2.2
theorem ea2_5 {α0:Sort _} {α1:Sort _} {A B C D E F:α0→α1→Prop} {G:Prop} (e:∃ x0 x1,A x0 x1∧B x0 x1∧C x0 x1∧D x0 x1∧E x0 x1∧F x0 x1) (k:∀ x0 x1,A x0 x1→B x0 x1→C x0 x1→D x0 x1→E x0 x1→F x0 x1→G):G:=e.elim fun x0 q0=>q0.elim fun x1 h=>k x0 x1 h.1 h.2.1 h.2.2.1 h.2.2.2.1 h.2.2.2.2.1 h.2.2.2.2.2
theorem ea2_6 {α0:Sort _} {α1:Sort _} {A B C D E F H:α0→α1→Prop} {G:Prop} (e:∃ x0 x1,A x0 x1∧B x0 x1∧C x0 x1∧D x0 x1∧E x0 x1∧F x0 x1∧H x0 x1) (k:∀ x0 x1,A x0 x1→B x0 x1→C x0 x1→D x0 x1→E x0 x1→F x0 x1→H x0 x1→G):G:=e.elim fun x0 q0=>q0.elim fun x1 h=>k x0 x1 h.1 h.2.1 h.2.2.1 h.2.2.2.1 h.2.2.2.2.1 h.2.2.2.2.2.1 h.2.2.2.2.2.2
theorem ea2_7 {α0:Sort _} {α1:Sort _} {A B C D E F H I:α0→α1→Prop} {G:Prop} (e:∃ x0 x1,A x0 x1∧B x0 x1∧C x0 x1∧D x0 x1∧E x0 x1∧F x0 x1∧H x0 x1∧I x0 x1) (k:∀ x0 x1,A x0 x1→B x0 x1→C x0 x1→D x0 x1→E x0 x1→F x0 x1→H x0 x1→I x0 x1→G):G:=e.elim fun x0 q0=>q0.elim fun x1 h=>k x0 x1 h.1 h.2.1 h.2.2.1 h.2.2.2.1 h.2.2.2.2.1 h.2.2.2.2.2.1 h.2.2.2.2.2.2.1 h.2.2.2.2.2.2.2
theorem ea2_8 {α0:Sort _} {α1:Sort _} {A B C D E F H I J:α0→α1→Prop} {G:Prop} (e:∃ x0 x1,A x0 x1∧B x0 x1∧C x0 x1∧D x0 x1∧E x0 x1∧F x0 x1∧H x0 x1∧I x0 x1∧J x0 x1) (k:∀ x0 x1,A x0 x1→B x0 x1→C x0 x1→D x0 x1→E x0 x1→F x0 x1→H x0 x1→I x0 x1→J x0 x1→G):G:=e.elim fun x0 q0=>q0.elim fun x1 h=>k x0 x1 h.1 h.2.1 h.2.2.1 h.2.2.2.1 h.2.2.2.2.1 h.2.2.2.2.2.1 h.2.2.2.2.2.2.1 h.2.2.2.2.2.2.2.1 h.2.2.2.2.2.2.2.2
theorem ea2_9 {α0:Sort _} {α1:Sort _} {A B C D E F H I J L:α0→α1→Prop} {G:Prop} (e:∃ x0 x1,A x0 x1∧B x0 x1∧C x0 x1∧D x0 x1∧E x0 x1∧F x0 x1∧H x0 x1∧I x0 x1∧J x0 x1∧L x0 x1) (k:∀ x0 x1,A x0 x1→B x0 x1→C x0 x1→D x0 x1→E x0 x1→F x0 x1→H x0 x1→I x0 x1→J x0 x1→L x0 x1→G):G:=e.elim fun x0 q0=>q0.elim fun x1 h=>k x0 x1 h.1 h.2.1 h.2.2.1 h.2.2.2.1 h.2.2.2.2.1 h.2.2.2.2.2.1 h.2.2.2.2.2.2.1 h.2.2.2.2.2.2.2.1 h.2.2.2.2.2.2.2.2.1 h.2.2.2.2.2.2.2.2.2
theorem ea2_10 {α0:Sort _} {α1:Sort _} {A B C D E F H I J L M:α0→α1→Prop} {G:Prop} (e:∃ x0 x1,A x0 x1∧B x0 x1∧C x0 x1∧D x0 x1∧E x0 x1∧F x0 x1∧H x0 x1∧I x0 x1∧J x0 x1∧L x0 x1∧M x0 x1) (k:∀ x0 x1,A x0 x1→B x0 x1→C x0 x1→D x0 x1→E x0 x1→F x0 x1→H x0 x1→I x0 x1→J x0 x1→L x0 x1→M x0 x1→G):G:=e.elim fun x0 q0=>q0.elim fun x1 h=>k x0 x1 h.1 h.2.1 h.2.2.1 h.2.2.2.1 h.2.2.2.2.1 h.2.2.2.2.2.1 h.2.2.2.2.2.2.1 h.2.2.2.2.2.2.2.1 h.2.2.2.2.2.2.2.2.1 h.2.2.2.2.2.2.2.2.2.1 h.2.2.2.2.2.2.2.2.2.2
theorem ea3_0 {α0:Sort _} {α1:Sort _} {α2:Sort _} {A:α0→α1→α2→Prop} {G:Prop} (e:∃ x0 x1 x2,A x0 x1 x2) (k:∀ x0 x1 x2,A x0 x1 x2→G):G:=e.elim fun x0 q0=>q0.elim fun x1 q1=>q1.elim fun x2 h=>k x0 x1 x2 h
theorem ea3_1 {α0:Sort _} {α1:Sort _} {α2:Sort _} {A B:α0→α1→α2→Prop} {G:Prop} (e:∃ x0 x1 x2,A x0 x1 x2∧B x0 x1 x2) (k:∀ x0 x1 x2,A x0 x1 x2→B x0 x1 x2→G):G:=e.elim fun x0 q0=>q0.elim fun x1 q1=>q1.elim fun x2 h=>k x0 x1 x2 h.1 h.2
theorem ea3_2 {α0:Sort _} {α1:Sort _} {α2:Sort _} {A B C:α0→α1→α2→Prop} {G:Prop} (e:∃ x0 x1 x2,A x0 x1 x2∧B x0 x1 x2∧C x0 x1 x2) (k:∀ x0 x1 x2,A x0 x1 x2→B x0 x1 x2→C x0 x1 x2→G):G:=e.elim fun x0 q0=>q0.elim fun x1 q1=>q1.elim fun x2 h=>k x0 x1 x2 h.1 h.2.1 h.2.2
theorem ea3_3 {α0:Sort _} {α1:Sort _} {α2:Sort _} {A B C D:α0→α1→α2→Prop} {G:Prop} (e:∃ x0 x1 x2,A x0 x1 x2∧B x0 x1 x2∧C x0 x1 x2∧D x0 x1 x2) (k:∀ x0 x1 x2,A x0 x1 x2→B x0 x1 x2→C x0 x1 x2→D x0 x1 x2→G):G:=e.elim fun x0 q0=>q0.elim fun x1 q1=>q1.elim fun x2 h=>k x0 x1 x2 h.1 h.2.1 h.2.2.1 h.2.2.2
theorem ea3_4 {α0:Sort _} {α1:Sort _} {α2:Sort _} {A B C D E:α0→α1→α2→Prop} {G:Prop} (e:∃ x0 x1 x2,A x0 x1 x2∧B x0 x1 x2∧C x0 x1 x2∧D x0 x1 x2∧E x0 x1 x2) (k:∀ x0 x1 x2,A x0 x1 x2→B x0 x1 x2→C x0 x1 x2→D x0 x1 x2→E x0 x1 x2→G):G:=e.elim fun x0 q0=>q0.elim fun x1 q1=>q1.elim fun x2 h=>k x0 x1 x2 h.1 h.2.1 h.2.2.1 h.2.2.2.1 h.2.2.2.2
theorem ea3_5 {α0:Sort _} {α1:Sort _} {α2:Sort _} {A B C D E F:α0→α1→α2→Prop} {G:Prop} (e:∃ x0 x1 x2,A x0 x1 x2∧B x0 x1 x2∧C x0 x1 x2∧D x0 x1 x2∧E x0 x1 x2∧F x0 x1 x2) (k:∀ x0 x1 x2,A x0 x1 x2→B x0 x1 x2→C x0 x1 x2→D x0 x1 x2→E x0 x1 x2→F x0 x1 x2→G):G:=e.elim fun x0 q0=>q0.elim fun x1 q1=>q1.elim fun x2 h=>k x0 x1 x2 h.1 h.2.1 h.2.2.1 h.2.2.2.1 h.2.2.2.2.1 h.2.2.2.2.2
theorem ea3_6 {α0:Sort _} {α1:Sort _} {α2:Sort _} {A B C D E F H:α0→α1→α2→Prop} {G:Prop} (e:∃ x0 x1 x2,A x0 x1 x2∧B x0 x1 x2∧C x0 x1 x2∧D x0 x1 x2∧E x0 x1 x2∧F x0 x1 x2∧H x0 x1 x2) (k:∀ x0 x1 x2,A x0 x1 x2→B x0 x1 x2→C x0 x1 x2→D x0 x1 x2→E x0 x1 x2→F x0 x1 x2→H x0 x1 x2→G):G:=e.elim fun x0 q0=>q0.elim fun x1 q1=>q1.elim fun x2 h=>k x0 x1 x2 h.1 h.2.1 h.2.2.1 h.2.2.2.1 h.2.2.2.2.1 h.2.2.2.2.2.1 h.2.2.2.2.2.2
theorem ea3_7 {α0:Sort _} {α1:Sort _} {α2:Sort _} {A B C D E F H I:α0→α1→α2→Prop} {G:Prop} (e:∃ x0 x1 x2,A x0 x1 x2∧B x0 x1 x2∧C x0 x1 x2∧D x0 x1 x2∧E x0 x1 x2∧F x0 x1 x2∧H x0 x1 x2∧I x0 x1 x2) (k:∀ x0 x1 x2,A x0 x1 x2→B x0 x1 x2→C x0 x1 x2→D x0 x1 x2→E x0 x1 x2→F x0 x1 x2→H x0 x1 x2→I x0 x1 x2→G):G:=e.elim fun x0 q0=>q0.elim fun x1 q1=>q1.elim fun x2 h=>k x0 x1 x2 h.1 h.2.1 h.2.2.1 h.2.2.2.1 h.2.2.2.2.1 h.2.2.2.2.2.1 h.2.2.2.2.2.2.1 h.2.2.2.2.2.2.2
theorem ea3_8 {α0:Sort _} {α1:Sort _} {α2:Sort _} {A B C D E F H I J:α0→α1→α2→Prop} {G:Prop} (e:∃ x0 x1 x2,A x0 x1 x2∧B x0 x1 x2∧C x0 x1 x2∧D x0 x1 x2∧E x0 x1 x2∧F x0 x1 x2∧H x0 x1 x2∧I x0 x1 x2∧J x0 x1 x2) (k:∀ x0 x1 x2,A x0 x1 x2→B x0 x1 x2→C x0 x1 x2→D x0 x1 x2→E x0 x1 x2→F x0 x1 x2→H x0 x1 x2→I x0 x1 x2→J x0 x1 x2→G):G:=e.elim fun x0 q0=>q0.elim fun x1 q1=>q1.elim fun x2 h=>k x0 x1 x2 h.1 h.2.1 h.2.2.1 h.2.2.2.1 h.2.2.2.2.1 h.2.2.2.2.2.1 h.2.2.2.2.2.2.1 h.2.2.2.2.2.2.2.1 h.2.2.2.2.2.2.2.2
theorem ea3_9 {α0:Sort _} {α1:Sort _} {α2:Sort _} {A B C D E F H I J L:α0→α1→α2→Prop} {G:Prop} (e:∃ x0 x1 x2,A x0 x1 x2∧B x0 x1 x2∧C x0 x1 x2∧D x0 x1 x2∧E x0 x1 x2∧F x0 x1 x2∧H x0 x1 x2∧I x0 x1 x2∧J x0 x1 x2∧L x0 x1 x2) (k:∀ x0 x1 x2,A x0 x1 x2→B x0 x1 x2→C x0 x1 x2→D x0 x1 x2→E x0 x1 x2→F x0 x1 x2→H x0 x1 x2→I x0 x1 x2→J x0 x1 x2→L x0 x1 x2→G):G:=e.elim fun x0 q0=>q0.elim fun x1 q1=>q1.elim fun x2 h=>k x0 x1 x2 h.1 h.2.1 h.2.2.1 h.2.2.2.1 h.2.2.2.2.1 h.2.2.2.2.2.1 h.2.2.2.2.2.2.1 h.2.2.2.2.2.2.2.1 h.2.2.2.2.2.2.2.2.1 h.2.2.2.2.2.2.2.2.2
theorem ea3_10 {α0:Sort _} {α1:Sort _} {α2:Sort _} {A B C D E F H I J L M:α0→α1→α2→Prop} {G:Prop} (e:∃ x0 x1 x2,A x0 x1 x2∧B x0 x1 x2∧C x0 x1 x2∧D x0 x1 x2∧E x0 x1 x2∧F x0 x1 x2∧H x0 x1 x2∧I x0 x1 x2∧J x0 x1 x2∧L x0 x1 x2∧M x0 x1 x2) (k:∀ x0 x1 x2,A x0 x1 x2→B x0 x1 x2→C x0 x1 x2→D x0 x1 x2→E x0 x1 x2→F x0 x1 x2→H x0 x1 x2→I x0 x1 x2→J x0 x1 x2→L x0 x1 x2→M x0 x1 x2→G):G:=e.elim fun x0 q0=>q0.elim fun x1 q1=>q1.elim fun x2 h=>k x0 x1 x2 h.1 h.2.1 h.2.2.1 h.2.2.2.1 h.2.2.2.2.1 h.2.2.2.2.2.1 h.2.2.2.2.2.2.1 h.2.2.2.2.2.2.2.1 h.2.2.2.2.2.2.2.2.1 h.2.2.2.2.2.2.2.2.2.1 h.2.2.2.2.2.2.2.2.2.2
theorem ea4_0 {α0:Sort _} {α1:Sort _} {α2:Sort _} {α3:Sort _} {A:α0→α1→α2→α3→Prop} {G:Prop} (e:∃ x0 x1 x2 x3,A x0 x1 x2 x3) (k:∀ x0 x1 x2 x3,A x0 x1 x2 x3→G):G:=e.elim fun x0 q0=>q0.elim fun x1 q1=>q1.elim fun x2 q2=>q2.elim fun x3 h=>k x0 x1 x2 x3 h
theorem ea4_1 {α0:Sort _} {α1:Sort _} {α2:Sort _} {α3:Sort _} {A B:α0→α1→α2→α3→Prop} {G:Prop} (e:∃ x0 x1 x2 x3,A x0 x1 x2 x3∧B x0 x1 x2 x3) (k:∀ x0 x1 x2 x3,A x0 x1 x2 x3→B x0 x1 x2 x3→G):G:=e.elim fun x0 q0=>q0.elim fun x1 q1=>q1.elim fun x2 q2=>q2.elim fun x3 h=>k x0 x1 x2 x3 h.1 h.2
theorem ea4_2 {α0:Sort _} {α1:Sort _} {α2:Sort _} {α3:Sort _} {A B C:α0→α1→α2→α3→Prop} {G:Prop} (e:∃ x0 x1 x2 x3,A x0 x1 x2 x3∧B x0 x1 x2 x3∧C x0 x1 x2 x3) (k:∀ x0 x1 x2 x3,A x0 x1 x2 x3→B x0 x1 x2 x3→C x0 x1 x2 x3→G):G:=e.elim fun x0 q0=>q0.elim fun x1 q1=>q1.elim fun x2 q2=>q2.elim fun x3 h=>k x0 x1 x2 x3 h.1 h.2.1 h.2.2
theorem ea4_3 {α0:Sort _} {α1:Sort _} {α2:Sort _} {α3:Sort _} {A B C D:α0→α1→α2→α3→Prop} {G:Prop} (e:∃ x0 x1 x2 x3,A x0 x1 x2 x3∧B x0 x1 x2 x3∧C x0 x1 x2 x3∧D x0 x1 x2 x3) (k:∀ x0 x1 x2 x3,A x0 x1 x2 x3→B x0 x1 x2 x3→C x0 x1 x2 x3→D x0 x1 x2 x3→G):G:=e.elim fun x0 q0=>q0.elim fun x1 q1=>q1.elim fun x2 q2=>q2.elim fun x3 h=>k x0 x1 x2 x3 h.1 h.2.1 h.2.2.1 h.2.2.2
theorem ea4_4 {α0:Sort _} {α1:Sort _} {α2:Sort _} {α3:Sort _} {A B C D E:α0→α1→α2→α3→Prop} {G:Prop} (e:∃ x0 x1 x2 x3,A x0 x1 x2 x3∧B x0 x1 x2 x3∧C x0 x1 x2 x3∧D x0 x1 x2 x3∧E x0 x1 x2 x3) (k:∀ x0 x1 x2 x3,A x0 x1 x2 x3→B x0 x1 x2 x3→C x0 x1 x2 x3→D x0 x1 x2 x3→E x0 x1 x2 x3→G):G:=e.elim fun x0 q0=>q0.elim fun x1 q1=>q1.elim fun x2 q2=>q2.elim fun x3 h=>k x0 x1 x2 x3 h.1 h.2.1 h.2.2.1 h.2.2.2.1 h.2.2.2.2
theorem ea4_5 {α0:Sort _} {α1:Sort _} {α2:Sort _} {α3:Sort _} {A B C D E F:α0→α1→α2→α3→Prop} {G:Prop} (e:∃ x0 x1 x2 x3,A x0 x1 x2 x3∧B x0 x1 x2 x3∧C x0 x1 x2 x3∧D x0 x1 x2 x3∧E x0 x1 x2 x3∧F x0 x1 x2 x3) (k:∀ x0 x1 x2 x3,A x0 x1 x2 x3→B x0 x1 x2 x3→C x0 x1 x2 x3→D x0 x1 x2 x3→E x0 x1 x2 x3→F x0 x1 x2 x3→G):G:=e.elim fun x0 q0=>q0.elim fun x1 q1=>q1.elim fun x2 q2=>q2.elim fun x3 h=>k x0 x1 x2 x3 h.1 h.2.1 h.2.2.1 h.2.2.2.1 h.2.2.2.2.1 h.2.2.2.2.2
theorem ea4_6 {α0:Sort _} {α1:Sort _} {α2:Sort _} {α3:Sort _} {A B C D E F H:α0→α1→α2→α3→Prop} {G:Prop} (e:∃ x0 x1 x2 x3,A x0 x1 x2 x3∧B x0 x1 x2 x3∧C x0 x1 x2 x3∧D x0 x1 x2 x3∧E x0 x1 x2 x3∧F x0 x1 x2 x3∧H x0 x1 x2 x3) (k:∀ x0 x1 x2 x3,A x0 x1 x2 x3→B x0 x1 x2 x3→C x0 x1 x2 x3→D x0 x1 x2 x3→E x0 x1 x2 x3→F x0 x1 x2 x3→H x0 x1 x2 x3→G):G:=e.elim fun x0 q0=>q0.elim fun x1 q1=>q1.elim fun x2 q2=>q2.elim fun x3 h=>k x0 x1 x2 x3 h.1 h.2.1 h.2.2.1 h.2.2.2.1 h.2.2.2.2.1 h.2.2.2.2.2.1 h.2.2.2.2.2.2
theorem ea4_7 {α0:Sort _} {α1:Sort _} {α2:Sort _} {α3:Sort _} {A B C D E F H I:α0→α1→α2→α3→Prop} {G:Prop} (e:∃ x0 x1 x2 x3,A x0 x1 x2 x3∧B x0 x1 x2 x3∧C x0 x1 x2 x3∧D x0 x1 x2 x3∧E x0 x1 x2 x3∧F x0 x1 x2 x3∧H x0 x1 x2 x3∧I x0 x1 x2 x3) (k:∀ x0 x1 x2 x3,A x0 x1 x2 x3→B x0 x1 x2 x3→C x0 x1 x2 x3→D x0 x1 x2 x3→E x0 x1 x2 x3→F x0 x1 x2 x3→H x0 x1 x2 x3→I x0 x1 x2 x3→G):G:=e.elim fun x0 q0=>q0.elim fun x1 q1=>q1.elim fun x2 q2=>q2.elim fun x3 h=>k x0 x1 x2 x3 h.1 h.2.1 h.2.2.1 h.2.2.2.1 h.2.2.2.2.1 h.2.2.2.2.2.1 h.2.2.2.2.2.2.1 h.2.2.2.2.2.2.2
theorem ea4_8 {α0:Sort _} {α1:Sort _} {α2:Sort _} {α3:Sort _} {A B C D E F H I J:α0→α1→α2→α3→Prop} {G:Prop} (e:∃ x0 x1 x2 x3,A x0 x1 x2 x3∧B x0 x1 x2 x3∧C x0 x1 x2 x3∧D x0 x1 x2 x3∧E x0 x1 x2 x3∧F x0 x1 x2 x3∧H x0 x1 x2 x3∧I x0 x1 x2 x3∧J x0 x1 x2 x3) (k:∀ x0 x1 x2 x3,A x0 x1 x2 x3→B x0 x1 x2 x3→C x0 x1 x2 x3→D x0 x1 x2 x3→E x0 x1 x2 x3→F x0 x1 x2 x3→H x0 x1 x2 x3→I x0 x1 x2 x3→J x0 x1 x2 x3→G):G:=e.elim fun x0 q0=>q0.elim fun x1 q1=>q1.elim fun x2 q2=>q2.elim fun x3 h=>k x0 x1 x2 x3 h.1 h.2.1 h.2.2.1 h.2.2.2.1 h.2.2.2.2.1 h.2.2.2.2.2.1 h.2.2.2.2.2.2.1 h.2.2.2.2.2.2.2.1 h.2.2.2.2.2.2.2.2
theorem ea4_9 {α0:Sort _} {α1:Sort _} {α2:Sort _} {α3:Sort _} {A B C D E F H I J L:α0→α1→α2→α3→Prop} {G:Prop} (e:∃ x0 x1 x2 x3,A x0 x1 x2 x3∧B x0 x1 x2 x3∧C x0 x1 x2 x3∧D x0 x1 x2 x3∧E x0 x1 x2 x3∧F x0 x1 x2 x3∧H x0 x1 x2 x3∧I x0 x1 x2 x3∧J x0 x1 x2 x3∧L x0 x1 x2 x3) (k:∀ x0 x1 x2 x3,A x0 x1 x2 x3→B x0 x1 x2 x3→C x0 x1 x2 x3→D x0 x1 x2 x3→E x0 x1 x2 x3→F x0 x1 x2 x3→H x0 x1 x2 x3→I x0 x1 x2 x3→J x0 x1 x2 x3→L x0 x1 x2 x3→G):G:=e.elim fun x0 q0=>q0.elim fun x1 q1=>q1.elim fun x2 q2=>q2.elim fun x3 h=>k x0 x1 x2 x3 h.1 h.2.1 h.2.2.1 h.2.2.2.1 h.2.2.2.2.1 h.2.2.2.2.2.1 h.2.2.2.2.2.2.1 h.2.2.2.2.2.2.2.1 h.2.2.2.2.2.2.2.2.1 h.2.2.2.2.2.2.2.2.2
theorem ea5_0 {α0:Sort _} {α1:Sort _} {α2:Sort _} {α3:Sort _} {α4:Sort _} {A:α0→α1→α2→α3→α4→Prop} {G:Prop} (e:∃ x0 x1 x2 x3 x4,A x0 x1 x2 x3 x4) (k:∀ x0 x1 x2 x3 x4,A x0 x1 x2 x3 x4→G):G:=e.elim fun x0 q0=>q0.elim fun x1 q1=>q1.elim fun x2 q2=>q2.elim fun x3 q3=>q3.elim fun x4 h=>k x0 x1 x2 x3 x4 h
theorem ea5_1 {α0:Sort _} {α1:Sort _} {α2:Sort _} {α3:Sort _} {α4:Sort _} {A B:α0→α1→α2→α3→α4→Prop} {G:Prop} (e:∃ x0 x1 x2 x3 x4,A x0 x1 x2 x3 x4∧B x0 x1 x2 x3 x4) (k:∀ x0 x1 x2 x3 x4,A x0 x1 x2 x3 x4→B x0 x1 x2 x3 x4→G):G:=e.elim fun x0 q0=>q0.elim fun x1 q1=>q1.elim fun x2 q2=>q2.elim fun x3 q3=>q3.elim fun x4 h=>k x0 x1 x2 x3 x4 h.1 h.2
theorem ea5_2 {α0:Sort _} {α1:Sort _} {α2:Sort _} {α3:Sort _} {α4:Sort _} {A B C:α0→α1→α2→α3→α4→Prop} {G:Prop} (e:∃ x0 x1 x2 x3 x4,A x0 x1 x2 x3 x4∧B x0 x1 x2 x3 x4∧C x0 x1 x2 x3 x4) (k:∀ x0 x1 x2 x3 x4,A x0 x1 x2 x3 x4→B x0 x1 x2 x3 x4→C x0 x1 x2 x3 x4→G):G:=e.elim fun x0 q0=>q0.elim fun x1 q1=>q1.elim fun x2 q2=>q2.elim fun x3 q3=>q3.elim fun x4 h=>k x0 x1 x2 x3 x4 h.1 h.2.1 h.2.2
theorem ea5_3 {α0:Sort _} {α1:Sort _} {α2:Sort _} {α3:Sort _} {α4:Sort _} {A B C D:α0→α1→α2→α3→α4→Prop} {G:Prop} (e:∃ x0 x1 x2 x3 x4,A x0 x1 x2 x3 x4∧B x0 x1 x2 x3 x4∧C x0 x1 x2 x3 x4∧D x0 x1 x2 x3 x4) (k:∀ x0 x1 x2 x3 x4,A x0 x1 x2 x3 x4→B x0 x1 x2 x3 x4→C x0 x1 x2 x3 x4→D x0 x1 x2 x3 x4→G):G:=e.elim fun x0 q0=>q0.elim fun x1 q1=>q1.elim fun x2 q2=>q2.elim fun x3 q3=>q3.elim fun x4 h=>k x0 x1 x2 x3 x4 h.1 h.2.1 h.2.2.1 h.2.2.2
theorem ea5_4 {α0:Sort _} {α1:Sort _} {α2:Sort _} {α3:Sort _} {α4:Sort _} {A B C D E:α0→α1→α2→α3→α4→Prop} {G:Prop} (e:∃ x0 x1 x2 x3 x4,A x0 x1 x2 x3 x4∧B x0 x1 x2 x3 x4∧C x0 x1 x2 x3 x4∧D x0 x1 x2 x3 x4∧E x0 x1 x2 x3 x4) (k:∀ x0 x1 x2 x3 x4,A x0 x1 x2 x3 x4→B x0 x1 x2 x3 x4→C x0 x1 x2 x3 x4→D x0 x1 x2 x3 x4→E x0 x1 x2 x3 x4→G):G:=e.elim fun x0 q0=>q0.elim fun x1 q1=>q1.elim fun x2 q2=>q2.elim fun x3 q3=>q3.elim fun x4 h=>k x0 x1 x2 x3 x4 h.1 h.2.1 h.2.2.1 h.2.2.2.1 h.2.2.2.2
theorem ea5_5 {α0:Sort _} {α1:Sort _} {α2:Sort _} {α3:Sort _} {α4:Sort _} {A B C D E F:α0→α1→α2→α3→α4→Prop} {G:Prop} (e:∃ x0 x1 x2 x3 x4,A x0 x1 x2 x3 x4∧B x0 x1 x2 x3 x4∧C x0 x1 x2 x3 x4∧D x0 x1 x2 x3 x4∧E x0 x1 x2 x3 x4∧F x0 x1 x2 x3 x4) (k:∀ x0 x1 x2 x3 x4,A x0 x1 x2 x3 x4→B x0 x1 x2 x3 x4→C x0 x1 x2 x3 x4→D x0 x1 x2 x3 x4→E x0 x1 x2 x3 x4→F x0 x1 x2 x3 x4→G):G:=e.elim fun x0 q0=>q0.elim fun x1 q1=>q1.elim fun x2 q2=>q2.elim fun x3 q3=>q3.elim fun x4 h=>k x0 x1 x2 x3 x4 h.1 h.2.1 h.2.2.1 h.2.2.2.1 h.2.2.2.2.1 h.2.2.2.2.2
theorem ea5_6 {α0:Sort _} {α1:Sort _} {α2:Sort _} {α3:Sort _} {α4:Sort _} {A B C D E F H:α0→α1→α2→α3→α4→Prop} {G:Prop} (e:∃ x0 x1 x2 x3 x4,A x0 x1 x2 x3 x4∧B x0 x1 x2 x3 x4∧C x0 x1 x2 x3 x4∧D x0 x1 x2 x3 x4∧E x0 x1 x2 x3 x4∧F x0 x1 x2 x3 x4∧H x0 x1 x2 x3 x4) (k:∀ x0 x1 x2 x3 x4,A x0 x1 x2 x3 x4→B x0 x1 x2 x3 x4→C x0 x1 x2 x3 x4→D x0 x1 x2 x3 x4→E x0 x1 x2 x3 x4→F x0 x1 x2 x3 x4→H x0 x1 x2 x3 x4→G):G:=e.elim fun x0 q0=>q0.elim fun x1 q1=>q1.elim fun x2 q2=>q2.elim fun x3 q3=>q3.elim fun x4 h=>k x0 x1 x2 x3 x4 h.1 h.2.1 h.2.2.1 h.2.2.2.1 h.2.2.2.2.1 h.2.2.2.2.2.1 h.2.2.2.2.2.2
theorem ea5_7 {α0:Sort _} {α1:Sort _} {α2:Sort _} {α3:Sort _} {α4:Sort _} {A B C D E F H I:α0→α1→α2→α3→α4→Prop} {G:Prop} (e:∃ x0 x1 x2 x3 x4,A x0 x1 x2 x3 x4∧B x0 x1 x2 x3 x4∧C x0 x1 x2 x3 x4∧D x0 x1 x2 x3 x4∧E x0 x1 x2 x3 x4∧F x0 x1 x2 x3 x4∧H x0 x1 x2 x3 x4∧I x0 x1 x2 x3 x4) (k:∀ x0 x1 x2 x3 x4,A x0 x1 x2 x3 x4→B x0 x1 x2 x3 x4→C x0 x1 x2 x3 x4→D x0 x1 x2 x3 x4→E x0 x1 x2 x3 x4→F x0 x1 x2 x3 x4→H x0 x1 x2 x3 x4→I x0 x1 x2 x3 x4→G):G:=e.elim fun x0 q0=>q0.elim fun x1 q1=>q1.elim fun x2 q2=>q2.elim fun x3 q3=>q3.elim fun x4 h=>k x0 x1 x2 x3 x4 h.1 h.2.1 h.2.2.1 h.2.2.2.1 h.2.2.2.2.1 h.2.2.2.2.2.1 h.2.2.2.2.2.2.1 h.2.2.2.2.2.2.2
theorem ea5_8 {α0:Sort _} {α1:Sort _} {α2:Sort _} {α3:Sort _} {α4:Sort _} {A B C D E F H I J:α0→α1→α2→α3→α4→Prop} {G:Prop} (e:∃ x0 x1 x2 x3 x4,A x0 x1 x2 x3 x4∧B x0 x1 x2 x3 x4∧C x0 x1 x2 x3 x4∧D x0 x1 x2 x3 x4∧E x0 x1 x2 x3 x4∧F x0 x1 x2 x3 x4∧H x0 x1 x2 x3 x4∧I x0 x1 x2 x3 x4∧J x0 x1 x2 x3 x4) (k:∀ x0 x1 x2 x3 x4,A x0 x1 x2 x3 x4→B x0 x1 x2 x3 x4→C x0 x1 x2 x3 x4→D x0 x1 x2 x3 x4→E x0 x1 x2 x3 x4→F x0 x1 x2 x3 x4→H x0 x1 x2 x3 x4→I x0 x1 x2 x3 x4→J x0 x1 x2 x3 x4→G):G:=e.elim fun x0 q0=>q0.elim fun x1 q1=>q1.elim fun x2 q2=>q2.elim fun x3 q3=>q3.elim fun x4 h=>k x0 x1 x2 x3 x4 h.1 h.2.1 h.2.2.1 h.2.2.2.1 h.2.2.2.2.1 h.2.2.2.2.2.1 h.2.2.2.2.2.2.1 h.2.2.2.2.2.2.2.1 h.2.2.2.2.2.2.2.2
theorem leL {a c d:Nat} (h:a≤c) (e:Nat.ble c d=true):a≤d:=Nat.le_trans h (Nat.le_of_ble_eq_true e)
theorem ltL {a c d:Nat} (h:a≤c) (e:Nat.ble (c+1) d=true):a<d:=Nat.le_trans (Nat.succ_le_succ h) (Nat.le_of_ble_eq_true e)
end Mine
set_option genInjectivity true
namespace Mine
open PySem
inductive V where
 | none
 | bool (b:Bool)
 | int (i:Int)
 | str (s:Str)
 | tup (l:List V)
 | obj (i:Nat)
 | frz (l:List Int)
noncomputable abbrev NKey:=Int×Int×Bool
noncomputable def NKey.items (k:NKey):List (Option Int):=some k.1::some k.2.1::(bif k.2.2 then [none] else [])
noncomputable def iV:Option Int→V
 | some i=>.int i
 | none=>.tup []
noncomputable def NKey.toV (k:NKey):V:=.tup (k.items.map iV)
inductive O where
 | list (l:List V)
 | di (l:List (Int×V))
 | ds (l:List (Str×V))
 | dt (l:List (NKey×V))
 | wd (l:List V)
 | inst (c:Nat) (fs:List V)
set_option genInjectivity false
inductive Bop where
 | add|sub|mul|fdiv|mod|shr
inductive Cop where
 | eq|ne|lt|le|gt|ge|isNone|isNot|mem|nmem
inductive DK where
 | di|ds|dt
inductive BF where
 | len|sorted|tuple|str
inductive E where
 | lit (v:V)
 | glob (x:Nat)
 | loc (i:Nat)
 | bin (op:Bop) (a b:E)
 | neg (a:E)
 | not (a:E)
 | bo (b:Bool) (l:List E)
 | cmp (op:Cop) (a b:E)
 | tup (l:List E)
 | list (l:List E)
 | dict (d:DK)
 | wd (l:List E)
 | idx (a b:E)
 | wk (a:E) (k:Nat)
 | cut (a:E) (k:Nat)
 | attr (a:E) (c i:Nat)
 | call (f:Nat) (args:List E)
 | new (c:Nat) (f:Nat) (args:List E)
 | new0 (c:Nat)
 | meth (o:E) (c f:Nat) (args:List E)
 | append (o x:E)
 | pop (o:E)
 | popAt (o i:E)
 | get1 (o k:E)
 | get2 (o k d:E)
 | bf (f:BF) (a:E)
 | comp (elt:E) (cap:List Nat) (it c:E)
 | comp2 (elt it it2:E)
 | inTid (a:E)
inductive T where
 | loc (i:Nat)
 | locs (l:List Nat)
 | attr (a:E) (c i:Nat)
 | idx (a b:E)
 | wk (a:E) (k:Nat)
inductive S where
 | assign (t:T) (e:E)
 | augl (i:Nat) (op:Bop) (e:E)
 | auga (a:E) (c i:Nat) (op:Bop) (e:E)
 | expr (e:E)
 | ret (e:E)
 | pass
 | ite (c:E) (a b:List S)
 | while (c:E) (b:List S)
 | forI (t:List Nat) (e:E) (b:List S)
 | forR (t:Nat) (n:E) (b:List S)
 | stuck
structure Fn where
 np:Nat
 nl:Nat
 body:List S
structure Tab where
 gnames:List Str
 gfns:List (Str×Nat)
 cnames:List Str
 attrs:List (List Str)
 meths:List (Nat×Str×Nat)
 inits:List (Nat×Nat)
 new0s:List Nat
 wks:List Str
end Mine
set_option genInjectivity true
namespace Mine
open PySem
noncomputable def fd_words_for:Fn:=⟨1,1,[.ite (.cmp .lt (.bin .add (.glob 1) (.loc 0)) (.glob 2)) [.ret (.glob 2)] [],.ret (.bin .add (.glob 1) (.loc 0))]⟩
noncomputable def fd_Thing_init:Fn:=⟨4,4,[.assign (.attr (.loc 0) 0 0) (.loc 1),.assign (.attr (.loc 0) 0 1) (.loc 2),.assign (.attr (.loc 0) 0 2) (.loc 3),.assign (.attr (.loc 0) 0 3) (.lit (.int 0)),.assign (.attr (.loc 0) 0 4) (.call 0 [(.bf .len (.loc 3))]),.assign (.attr (.loc 0) 0 5) (.lit (.int 0))]⟩
noncomputable def fd_Heap_init:Fn:=⟨3,3,[.assign (.attr (.loc 0) 1 0) (.list []),.assign (.attr (.loc 0) 1 1) (.dict .di),.assign (.attr (.loc 0) 1 2) (.glob 0),.assign (.attr (.loc 0) 1 3) (.loc 1),.assign (.attr (.loc 0) 1 4) (.dict .di),.assign (.attr (.loc 0) 1 5) (.loc 2),.assign (.attr (.loc 0) 1 6) (.lit (.int 0)),.assign (.attr (.loc 0) 1 7) (.bin .add (.bin .fdiv (.loc 1) (.lit (.int 4))) (.lit (.int 1))),.assign (.attr (.loc 0) 1 8) (.list []),.assign (.attr (.loc 0) 1 9) (.list []),.assign (.attr (.loc 0) 1 10) (.lit (.int 0)),.assign (.attr (.loc 0) 1 11) (.lit (.int 0))]⟩
noncomputable def fd_heap_alloc:Fn:=⟨3,4,[.assign (.loc 3) (.new 0 1 [(.attr (.loc 0) 1 2),(.loc 1),(.loc 2)]),.auga (.loc 0) 1 11 .add (.lit (.int 1)),.assign (.attr (.loc 3) 0 5) (.attr (.loc 0) 1 11),.expr (.append (.attr (.loc 0) 1 0) (.loc 3)),.assign (.idx (.attr (.loc 0) 1 1) (.attr (.loc 3) 0 0)) (.loc 3),.auga (.loc 0) 1 2 .add (.attr (.loc 3) 0 4),.auga (.loc 0) 1 6 .add (.attr (.loc 3) 0 4),.ret (.loc 3)]⟩
noncomputable def fd_used_words:Fn:=⟨1,1,[.ret (.bin .sub (.attr (.loc 0) 1 2) (.glob 0))]⟩
noncomputable def fd_note_collected:Fn:=⟨2,2,[.assign (.attr (.loc 0) 1 6) (.lit (.int 0)),.ite (.bo true [(.cmp .ge (.loc 1) (.glob 3)),(.cmp .gt (.bin .mul (.lit (.int 2)) (.call 4 [(.loc 0)])) (.attr (.loc 0) 1 3))]) [.assign (.attr (.loc 0) 1 3) (.bin .mul (.lit (.int 2)) (.call 4 [(.loc 0)]))] []]⟩
noncomputable def fd_find_thing:Fn:=⟨2,7,[.assign (.loc 2) (.get1 (.attr (.loc 0) 1 1) (.loc 1)),.ite (.cmp .isNot (.loc 2) (.lit .none)) [.ret (.loc 2)] [],.assign (.loc 3) (.lit (.int 0)),.assign (.loc 4) (.bf .len (.attr (.loc 0) 1 0)),.while (.cmp .lt (.loc 3) (.loc 4)) [.assign (.loc 5) (.bin .fdiv (.bin .add (.loc 3) (.loc 4)) (.lit (.int 2))),.ite (.cmp .le (.attr (.idx (.attr (.loc 0) 1 0) (.loc 5)) 0 0) (.loc 1)) [.assign (.loc 3) (.bin .add (.loc 5) (.lit (.int 1)))] [.assign (.loc 4) (.loc 5)]],.ite (.cmp .eq (.loc 3) (.lit (.int 0))) [.ret (.lit .none)] [],.assign (.loc 6) (.idx (.attr (.loc 0) 1 0) (.bin .sub (.loc 3) (.lit (.int 1)))),.ite (.cmp .lt (.loc 1) (.bin .add (.attr (.loc 6) 0 0) (.attr (.loc 6) 0 4))) [.ret (.loc 6)] [],.ret (.lit .none)]⟩
noncomputable def fd_slot_word:Fn:=⟨2,2,[.ret (.bin .add (.bin .add (.attr (.loc 0) 0 0) (.glob 1)) (.loc 1))]⟩
noncomputable def fd_card_number:Fn:=⟨2,2,[.ret (.bin .shr (.loc 1) (.attr (.loc 0) 1 5))]⟩
noncomputable def fd_KindTable_init:Fn:=⟨1,3,[.assign (.attr (.loc 0) 2 0) (.list []),.assign (.attr (.loc 0) 2 1) (.dict .dt),.assign (.attr (.loc 0) 2 2) (.list []),.assign (.attr (.loc 0) 2 3) (.list []),.assign (.attr (.loc 0) 2 4) (.list []),.forR 1 (.glob 20) [.assign (.loc 2) (.tup [(.glob 21),(.loc 1)]),.expr (.append (.attr (.loc 0) 2 0) (.loc 2)),.assign (.idx (.attr (.loc 0) 2 1) (.loc 2)) (.loc 1),.expr (.append (.attr (.loc 0) 2 2) (.lit (.int 1))),.expr (.append (.attr (.loc 0) 2 3) (.lit (.int 1))),.expr (.append (.attr (.loc 0) 2 4) (.lit (.int 0)))]]⟩
noncomputable def fd_KindTable_put:Fn:=⟨2,9,[.assign (.loc 2) (.get2 (.attr (.loc 0) 2 1) (.loc 1) (.neg (.lit (.int 1)))),.ite (.cmp .ge (.loc 2) (.lit (.int 0))) [.ret (.loc 2)] [],.expr (.call 14 [(.loc 0),(.loc 1)]),.assign (.loc 3) (.lit (.int 1)),.assign (.loc 4) (.lit (.int 1)),.assign (.loc 5) (.lit (.int 0)),.ite (.bo false [(.cmp .eq (.idx (.loc 1) (.lit (.int 0))) (.glob 26)),(.cmp .eq (.idx (.loc 1) (.lit (.int 0))) (.glob 27))]) [.assign (.loc 5) (.lit (.int 1))] [],.assign (.loc 6) (.call 12 [(.idx (.loc 1) (.lit (.int 0)))]),.forI [7] (.call 11 [(.loc 1)]) [.ite (.cmp .gt (.bin .add (.idx (.attr (.loc 0) 2 2) (.loc 7)) (.loc 6)) (.loc 3)) [.assign (.loc 3) (.bin .add (.idx (.attr (.loc 0) 2 2) (.loc 7)) (.loc 6))] [],.augl 4 .add (.idx (.attr (.loc 0) 2 3) (.loc 7)),.ite (.cmp .eq (.idx (.attr (.loc 0) 2 4) (.loc 7)) (.lit (.int 1))) [.assign (.loc 5) (.lit (.int 1))] []],.ite (.cmp .gt (.loc 3) (.glob 32)) [.stuck] [],.ite (.cmp .gt (.loc 4) (.glob 33)) [.stuck] [],.assign (.loc 8) (.bf .len (.attr (.loc 0) 2 0)),.expr (.append (.attr (.loc 0) 2 0) (.loc 1)),.assign (.idx (.attr (.loc 0) 2 1) (.loc 1)) (.loc 8),.expr (.append (.attr (.loc 0) 2 2) (.loc 3)),.expr (.append (.attr (.loc 0) 2 3) (.loc 4)),.expr (.append (.attr (.loc 0) 2 4) (.loc 5)),.ret (.loc 8)]⟩
noncomputable def fd_inner_kinds:Fn:=⟨1,2,[.assign (.loc 1) (.idx (.loc 0) (.lit (.int 0))),.ite (.bo false [(.cmp .eq (.loc 1) (.glob 22)),(.cmp .eq (.loc 1) (.glob 23))]) [.ret (.idx (.loc 0) (.lit (.int 2)))] [],.ite (.bo false [(.cmp .eq (.loc 1) (.glob 24)),(.cmp .eq (.loc 1) (.glob 25)),(.cmp .eq (.loc 1) (.glob 28)),(.cmp .eq (.loc 1) (.glob 29)),(.cmp .eq (.loc 1) (.glob 31))]) [.ret (.tup [(.idx (.loc 0) (.lit (.int 1)))])] [],.ite (.cmp .eq (.loc 1) (.glob 30)) [.ret (.bin .add (.tup [(.idx (.loc 0) (.lit (.int 1)))]) (.idx (.loc 0) (.lit (.int 3))))] [],.ret (.tup [])]⟩
noncomputable def fd_row_level:Fn:=⟨1,1,[.ite (.bo false [(.cmp .eq (.loc 0) (.glob 22)),(.cmp .eq (.loc 0) (.glob 23)),(.cmp .eq (.loc 0) (.glob 24))]) [.ret (.lit (.int 1))] [],.ret (.lit (.int 0))]⟩
noncomputable def fd_row_length:Fn:=⟨1,1,[.ite (.bo false [(.cmp .eq (.loc 0) (.glob 22)),(.cmp .eq (.loc 0) (.glob 23))]) [.ret (.lit (.int 3))] [],.ite (.cmp .eq (.loc 0) (.glob 30)) [.ret (.lit (.int 4))] [],.ret (.lit (.int 2))]⟩
noncomputable def fd_check_kind_row:Fn:=⟨2,4,[.ite (.bo false [(.cmp .eq (.bf .len (.loc 1)) (.lit (.int 0))),(.cmp .le (.idx (.loc 1) (.lit (.int 0))) (.glob 21)),(.cmp .gt (.idx (.loc 1) (.lit (.int 0))) (.glob 31))]) [.stuck] [],.assign (.loc 2) (.idx (.loc 1) (.lit (.int 0))),.ite (.cmp .ne (.bf .len (.loc 1)) (.call 13 [(.loc 2)])) [.stuck] [],.forI [3] (.call 11 [(.loc 1)]) [.stuck],.ite (.bo false [(.cmp .eq (.loc 2) (.glob 22)),(.cmp .eq (.loc 2) (.glob 23))]) [.expr (.call 15 [(.loc 0),(.loc 1)])] [.ite (.bo false [(.cmp .eq (.loc 2) (.glob 26)),(.cmp .eq (.loc 2) (.glob 27))]) [.ite (.cmp .lt (.idx (.loc 1) (.lit (.int 1))) (.lit (.int 0))) [.stuck] []] [.ite (.cmp .eq (.loc 2) (.glob 30)) [.stuck,.expr (.call 16 [(.loc 0),(.idx (.loc 1) (.lit (.int 3)))])] [.ite (.cmp .eq (.loc 2) (.glob 28)) [.stuck] [.stuck]]]]]⟩
noncomputable def fd_check_named:Fn:=⟨2,2,[.ite (.bo false [(.cmp .le (.idx (.loc 1) (.lit (.int 1))) (.lit (.int 0))),(.inTid (.idx (.loc 1) (.lit (.int 1))))]) [.stuck] [],.expr (.call 16 [(.loc 0),(.idx (.loc 1) (.lit (.int 2)))])]⟩
noncomputable def fd_check_args:Fn:=⟨2,3,[.forI [2] (.loc 1) [.stuck]]⟩
noncomputable def fd_class_kind:Fn:=⟨3,3,[.ite (.inTid (.loc 1)) [.stuck] [],.ret (.meth (.loc 0) 2 10 [(.tup [(.glob 22),(.loc 1),(.loc 2)])])]⟩
noncomputable def fd_value_kind:Fn:=⟨3,3,[.ite (.inTid (.loc 1)) [.stuck] [],.ret (.meth (.loc 0) 2 10 [(.tup [(.glob 23),(.loc 1),(.loc 2)])])]⟩
noncomputable def fd_refs_in:Fn:=⟨1,5,[.ite (.cmp .eq (.idx (.loc 0) (.lit (.int 0))) (.glob 37)) [.ite (.cmp .eq (.idx (.loc 0) (.lit (.int 1))) (.lit (.int 0))) [.ret (.list [])] [],.ret (.list [(.idx (.loc 0) (.lit (.int 1)))])] [],.ite (.cmp .ne (.idx (.loc 0) (.lit (.int 0))) (.glob 38)) [.ret (.list [])] [],.assign (.loc 1) (.list []),.assign (.loc 2) (.list [(.loc 0)]),.while (.cmp .gt (.bf .len (.loc 2)) (.lit (.int 0))) [.assign (.loc 3) (.pop (.loc 2)),.ite (.cmp .eq (.idx (.loc 3) (.lit (.int 0))) (.glob 38)) [.assign (.loc 4) (.bin .sub (.bf .len (.idx (.loc 3) (.lit (.int 2)))) (.lit (.int 1))),.while (.cmp .ge (.loc 4) (.lit (.int 0))) [.expr (.append (.loc 2) (.idx (.idx (.loc 3) (.lit (.int 2))) (.loc 4))),.augl 4 .sub (.lit (.int 1))]] [.ite (.bo true [(.cmp .eq (.idx (.loc 3) (.lit (.int 0))) (.glob 37)),(.cmp .ne (.idx (.loc 3) (.lit (.int 1))) (.lit (.int 0)))]) [.expr (.append (.loc 1) (.idx (.loc 3) (.lit (.int 1))))] []]],.ret (.loc 1)]⟩
noncomputable def fd_move_value:Fn:=⟨3,3,[.ite (.cmp .eq (.idx (.loc 0) (.lit (.int 0))) (.glob 38)) [.ret (.call 22 [(.loc 0),(.loc 1),(.loc 2)])] [],.ret (.call 21 [(.loc 0),(.loc 1),(.loc 2)])]⟩
noncomputable def fd_move_plain:Fn:=⟨3,4,[.ite (.cmp .eq (.idx (.loc 0) (.lit (.int 0))) (.glob 37)) [.ret (.tup [(.glob 37),(.get2 (.loc 1) (.idx (.loc 0) (.lit (.int 1))) (.idx (.loc 0) (.lit (.int 1))))])] [],.ite (.bo true [(.cmp .eq (.idx (.loc 0) (.lit (.int 0))) (.glob 39)),(.cmp .eq (.idx (.idx (.loc 0) (.lit (.int 1))) (.lit (.int 0))) (.glob 44))]) [.assign (.loc 3) (.idx (.loc 0) (.lit (.int 1))),.ret (.tup [(.glob 39),(.tup [(.glob 44),(.meth (.loc 2) 3 41 [(.idx (.loc 3) (.lit (.int 1)))]),(.idx (.loc 3) (.lit (.int 2)))])])] [],.ret (.loc 0)]⟩
noncomputable def fd_move_struct:Fn:=⟨3,8,[.assign (.loc 3) (.list [(.tup [(.loc 0),(.list [])])]),.assign (.loc 4) (.loc 0),.while (.cmp .gt (.bf .len (.loc 3)) (.lit (.int 0))) [.assign (.locs [5,6]) (.idx (.loc 3) (.bin .sub (.bf .len (.loc 3)) (.lit (.int 1)))),.ite (.cmp .eq (.bf .len (.loc 6)) (.bf .len (.idx (.loc 5) (.lit (.int 2))))) [.assign (.loc 4) (.tup [(.glob 38),(.idx (.loc 5) (.lit (.int 1))),(.bf .tuple (.loc 6))]),.expr (.pop (.loc 3)),.ite (.cmp .gt (.bf .len (.loc 3)) (.lit (.int 0))) [.expr (.append (.idx (.idx (.loc 3) (.bin .sub (.bf .len (.loc 3)) (.lit (.int 1)))) (.lit (.int 1))) (.loc 4))] []] [.assign (.loc 7) (.idx (.idx (.loc 5) (.lit (.int 2))) (.bf .len (.loc 6))),.ite (.cmp .eq (.idx (.loc 7) (.lit (.int 0))) (.glob 38)) [.expr (.append (.loc 3) (.tup [(.loc 7),(.list [])]))] [.expr (.append (.loc 6) (.call 21 [(.loc 7),(.loc 1),(.loc 2)]))]]],.ret (.loc 4)]⟩
noncomputable def fd_words_of:Fn:=⟨1,2,[.ite (.cmp .eq (.idx (.loc 0) (.lit (.int 0))) (.glob 37)) [.ret (.list [(.idx (.loc 0) (.lit (.int 1)))])] [],.ite (.cmp .eq (.idx (.loc 0) (.lit (.int 0))) (.glob 39)) [.assign (.loc 1) (.idx (.loc 0) (.lit (.int 1))),.ite (.cmp .eq (.idx (.loc 1) (.lit (.int 0))) (.glob 44)) [.ret (.list [(.idx (.loc 1) (.lit (.int 1)))])] [],.ret (.list [])] [],.ret (.call 19 [(.loc 0)])]⟩
noncomputable def fd_push_word:Fn:=⟨5,6,[.ite (.cmp .eq (.loc 1) (.lit (.int 0))) [.ret (.lit .none)] [],.assign (.loc 5) (.call 6 [(.loc 0),(.loc 1)]),.ite (.bo false [(.cmp .isNone (.loc 5) (.lit .none)),(.cmp .gt (.attr (.loc 5) 0 3) (.loc 2)),(.cmp .mem (.attr (.loc 5) 0 0) (.loc 3))]) [.ret (.lit .none)] [],.assign (.idx (.loc 3) (.attr (.loc 5) 0 0)) (.lit (.int 1)),.expr (.append (.loc 4) (.loc 5))]⟩
noncomputable def fd_push_value:Fn:=⟨5,6,[.forI [5] (.call 23 [(.loc 1)]) [.expr (.call 24 [(.loc 0),(.loc 5),(.loc 2),(.loc 3),(.loc 4)])]]⟩
noncomputable def fd_drain:Fn:=⟨4,6,[.while (.cmp .gt (.bf .len (.loc 1)) (.lit (.int 0))) [.assign (.loc 4) (.pop (.loc 1)),.forI [5] (.attr (.loc 4) 0 2) [.expr (.call 25 [(.loc 0),(.loc 5),(.loc 2),(.loc 3),(.loc 1)])]]]⟩
noncomputable def fd_old_slots:Fn:=⟨2,5,[.assign (.loc 2) (.list []),.forI [3] (.attr (.loc 0) 1 0) [.ite (.cmp .gt (.attr (.loc 3) 0 3) (.loc 1)) [.forR 4 (.bf .len (.attr (.loc 3) 0 2)) [.ite (.cmp .mem (.call 8 [(.loc 0),(.call 7 [(.loc 3),(.loc 4)])]) (.attr (.loc 0) 1 4)) [.expr (.append (.loc 2) (.tup [(.loc 3),(.loc 4)]))] []]] []],.ret (.loc 2)]⟩
noncomputable def fd_mark:Fn:=⟨3,9,[.assign (.loc 3) (.dict .di),.assign (.loc 4) (.list []),.forI [5] (.loc 1) [.forI [6] (.loc 5) [.expr (.call 25 [(.loc 0),(.loc 6),(.loc 2),(.loc 3),(.loc 4)])]],.ite (.cmp .lt (.loc 2) (.glob 3)) [.forI [7,8] (.call 27 [(.loc 0),(.loc 2)]) [.expr (.call 25 [(.loc 0),(.idx (.attr (.loc 7) 0 2) (.loc 8)),(.loc 2),(.loc 3),(.loc 4)])]] [],.expr (.call 26 [(.loc 0),(.loc 4),(.loc 2),(.loc 3)]),.ret (.loc 3)]⟩
noncomputable def fd_reach_more:Fn:=⟨4,6,[.assign (.loc 4) (.list []),.forI [5] (.loc 2) [.expr (.call 24 [(.loc 0),(.loc 5),(.loc 3),(.loc 1),(.loc 4)])],.expr (.call 26 [(.loc 0),(.loc 4),(.loc 3),(.loc 1)])]⟩
noncomputable def fd_refers_younger:Fn:=⟨3,5,[.forI [3] (.call 19 [(.loc 2)]) [.assign (.loc 4) (.get1 (.attr (.loc 0) 1 1) (.loc 3)),.ite (.bo true [(.cmp .isNot (.loc 4) (.lit .none)),(.cmp .lt (.attr (.loc 4) 0 3) (.attr (.loc 1) 0 3))]) [.ret (.lit (.bool true))] []],.ret (.lit (.bool false))]⟩
noncomputable def fd_younger_slots:Fn:=⟨1,4,[.assign (.loc 1) (.list []),.forI [2] (.attr (.loc 0) 1 0) [.ite (.cmp .gt (.attr (.loc 2) 0 3) (.lit (.int 0))) [.forR 3 (.bf .len (.attr (.loc 2) 0 2)) [.ite (.call 30 [(.loc 0),(.loc 2),(.idx (.attr (.loc 2) 0 2) (.loc 3))]) [.expr (.append (.loc 1) (.tup [(.loc 2),(.loc 3)]))] []]] []],.ret (.loc 1)]⟩
noncomputable def fd_renew_cards:Fn:=⟨1,3,[.assign (.attr (.loc 0) 1 4) (.dict .di),.forI [1,2] (.call 31 [(.loc 0)]) [.stuck]]⟩
noncomputable def fd_Handles_init:Fn:=⟨1,1,[.assign (.attr (.loc 0) 4 0) (.list [])]⟩
noncomputable def fd_strong_values:Fn:=⟨1,3,[.assign (.loc 1) (.list []),.forI [2] (.attr (.loc 0) 4 0) [.ite (.bo true [(.cmp .eq (.idx (.loc 2) (.glob 48)) (.glob 47)),(.cmp .eq (.idx (.loc 2) (.glob 50)) (.lit (.int 1))),(.cmp .ne (.idx (.loc 2) (.glob 49)) (.lit (.int 0)))]) [.expr (.append (.loc 1) (.tup [(.glob 37),(.idx (.loc 2) (.glob 49))]))] []],.ret (.loc 1)]⟩
noncomputable def fd_clear_handles:Fn:=⟨5,7,[.assign (.loc 5) (.lit (.int 0)),.forI [6] (.attr (.loc 0) 4 0) [.stuck],.ret (.loc 5)]⟩
noncomputable def fd_move_handles:Fn:=⟨2,3,[.forI [2] (.attr (.loc 0) 4 0) [.ite (.cmp .mem (.idx (.loc 2) (.glob 49)) (.loc 1)) [.assign (.idx (.loc 2) (.glob 49)) (.idx (.loc 1) (.idx (.loc 2) (.glob 49)))] []]]⟩
noncomputable def fd_pick_finals:Fn:=⟨3,6,[.assign (.loc 3) (.list []),.assign (.loc 4) (.list []),.forI [5] (.attr (.loc 0) 1 8) [.stuck],.assign (.attr (.loc 0) 1 8) (.loc 3),.ret (.loc 4)]⟩
noncomputable def fd_end_of_older:Fn:=⟨2,4,[.assign (.loc 2) (.glob 0),.forI [3] (.attr (.loc 0) 1 0) [.ite (.bo true [(.cmp .gt (.attr (.loc 3) 0 3) (.loc 1)),(.cmp .gt (.bin .add (.attr (.loc 3) 0 0) (.attr (.loc 3) 0 4)) (.loc 2))]) [.assign (.loc 2) (.bin .add (.attr (.loc 3) 0 0) (.attr (.loc 3) 0 4))] []],.ret (.loc 2)]⟩
noncomputable def fd_plan_moves:Fn:=⟨3,6,[.assign (.loc 3) (.dict .di),.assign (.loc 4) (.call 38 [(.loc 0),(.loc 2)]),.forI [5] (.attr (.loc 0) 1 0) [.ite (.bo true [(.cmp .le (.attr (.loc 5) 0 3) (.loc 2)),(.cmp .mem (.attr (.loc 5) 0 0) (.loc 1))]) [.assign (.idx (.loc 3) (.attr (.loc 5) 0 0)) (.loc 4),.augl 4 .add (.attr (.loc 5) 0 4)] []],.ret (.loc 3)]⟩
noncomputable def fd_Words_init:Fn:=⟨3,3,[.assign (.attr (.loc 0) 3 0) (.loc 1),.assign (.attr (.loc 0) 3 1) (.loc 2)]⟩
noncomputable def fd_Words_new_word:Fn:=⟨2,2,[.ret (.call 42 [(.attr (.loc 0) 3 0),(.attr (.loc 0) 3 1),(.loc 1)])]⟩
noncomputable def fd_moved_word:Fn:=⟨3,4,[.assign (.loc 3) (.call 6 [(.loc 0),(.loc 2)]),.ite (.bo false [(.cmp .isNone (.loc 3) (.lit .none)),(.cmp .nmem (.attr (.loc 3) 0 0) (.loc 1))]) [.ret (.loc 2)] [],.ret (.bin .add (.bin .sub (.loc 2) (.attr (.loc 3) 0 0)) (.idx (.loc 1) (.attr (.loc 3) 0 0)))]⟩
noncomputable def fd_stays:Fn:=⟨3,3,[.ret (.bo false [(.cmp .gt (.attr (.loc 0) 0 3) (.loc 2)),(.cmp .mem (.attr (.loc 0) 0 0) (.loc 1))])]⟩
noncomputable def fd_moved_values:Fn:=⟨3,5,[.assign (.loc 3) (.list []),.forI [4] (.loc 0) [.expr (.append (.loc 3) (.call 20 [(.loc 4),(.loc 1),(.loc 2)]))],.ret (.loc 3)]⟩
noncomputable def fd_new_lists:Fn:=⟨3,5,[.assign (.loc 3) (.list []),.forI [4] (.loc 0) [.expr (.append (.loc 3) (.call 44 [(.loc 4),(.loc 1),(.loc 2)]))],.ret (.loc 3)]⟩
noncomputable def fd_put_lists:Fn:=⟨2,5,[.forR 2 (.bf .len (.loc 0)) [.assign (.loc 3) (.idx (.loc 0) (.loc 2)),.forR 4 (.bf .len (.loc 3)) [.assign (.idx (.loc 3) (.loc 4)) (.idx (.idx (.loc 1) (.loc 2)) (.loc 4))]]]⟩
noncomputable def fd_moved_addrs:Fn:=⟨2,4,[.assign (.loc 2) (.list []),.forI [3] (.loc 0) [.expr (.append (.loc 2) (.get2 (.loc 1) (.loc 3) (.loc 3)))],.ret (.loc 2)]⟩
noncomputable def fd_settle_thing:Fn:=⟨4,5,[.ite (.cmp .gt (.attr (.loc 1) 0 3) (.loc 3)) [.ret (.lit .none)] [],.assign (.loc 4) (.idx (.loc 2) (.attr (.loc 1) 0 0)),.ite (.cmp .ne (.loc 4) (.attr (.loc 1) 0 0)) [.auga (.loc 0) 1 10 .add (.lit (.int 1))] [],.assign (.attr (.loc 1) 0 0) (.loc 4),.ite (.cmp .lt (.attr (.loc 1) 0 3) (.glob 3)) [.auga (.loc 1) 0 3 .add (.lit (.int 1))] []]⟩
noncomputable def fd_settle_things:Fn:=⟨3,5,[.assign (.loc 3) (.list []),.forI [4] (.attr (.loc 0) 1 0) [.ite (.call 43 [(.loc 4),(.loc 1),(.loc 2)]) [.expr (.append (.loc 3) (.loc 4))] []],.assign (.attr (.loc 0) 1 0) (.loc 3),.assign (.attr (.loc 0) 1 1) (.dict .di),.assign (.attr (.loc 0) 1 2) (.glob 0),.forI [4] (.loc 3) [.expr (.call 48 [(.loc 0),(.loc 4),(.loc 1),(.loc 2)]),.assign (.idx (.attr (.loc 0) 1 1) (.attr (.loc 4) 0 0)) (.loc 4),.assign (.attr (.loc 0) 1 2) (.bin .add (.attr (.loc 4) 0 0) (.attr (.loc 4) 0 4))]]⟩
noncomputable def fd_move_all:Fn:=⟨4,8,[.assign (.loc 4) (.new 3 40 [(.loc 0),(.loc 2)]),.assign (.loc 5) (.list []),.forI [6] (.loc 1) [.expr (.append (.loc 5) (.loc 6))],.expr (.append (.loc 5) (.attr (.loc 0) 1 9)),.forI [7] (.attr (.loc 0) 1 0) [.ite (.call 43 [(.loc 7),(.loc 2),(.loc 3)]) [.expr (.append (.loc 5) (.attr (.loc 7) 0 2))] []],.expr (.call 46 [(.loc 5),(.call 45 [(.loc 5),(.loc 2),(.loc 4)])]),.assign (.attr (.loc 0) 1 8) (.call 47 [(.attr (.loc 0) 1 8),(.loc 2)]),.expr (.call 49 [(.loc 0),(.loc 2),(.loc 3)])]⟩
noncomputable def fd_root_lists:Fn:=⟨3,5,[.assign (.loc 3) (.list []),.forI [4] (.loc 1) [.expr (.append (.loc 3) (.loc 4))],.expr (.append (.loc 3) (.attr (.loc 0) 1 9)),.ite (.cmp .isNot (.loc 2) (.lit .none)) [.expr (.append (.loc 3) (.call 34 [(.loc 2)]))] [],.ret (.loc 3)]⟩
noncomputable def fd_find_living:Fn:=⟨4,6,[.assign (.loc 4) (.call 28 [(.loc 0),(.call 51 [(.loc 0),(.loc 1),(.loc 2)]),(.loc 3)]),.ite (.cmp .isNot (.loc 2) (.lit .none)) [.expr (.call 35 [(.loc 2),(.glob 45),(.loc 4),(.loc 0),(.loc 3)])] [],.assign (.loc 5) (.call 37 [(.loc 0),(.loc 4),(.loc 3)]),.expr (.call 29 [(.loc 0),(.loc 4),(.loc 5),(.loc 3)]),.ite (.cmp .isNot (.loc 2) (.lit .none)) [.expr (.call 35 [(.loc 2),(.glob 46),(.loc 4),(.loc 0),(.loc 3)])] [],.ret (.loc 4)]⟩
noncomputable def fd_collect:Fn:=⟨4,7,[.assign (.loc 4) (.bf .len (.attr (.loc 0) 1 0)),.assign (.loc 5) (.call 52 [(.loc 0),(.loc 1),(.loc 2),(.loc 3)]),.assign (.loc 6) (.call 39 [(.loc 0),(.loc 5),(.loc 3)]),.expr (.call 50 [(.loc 0),(.loc 1),(.loc 6),(.loc 3)]),.ite (.cmp .isNot (.loc 2) (.lit .none)) [.expr (.call 36 [(.loc 2),(.loc 6)])] [],.expr (.call 32 [(.loc 0)]),.expr (.call 5 [(.loc 0),(.loc 3)]),.ret (.bin .sub (.loc 4) (.bf .len (.attr (.loc 0) 1 0)))]⟩
noncomputable def fd_roots:Fn:=⟨1,6,[.assign (.loc 1) (.list []),.forI [2] (.attr (.loc 0) 10 9) [.ite (.cmp .eq (.attr (.loc 2) 6 12) (.attr (.loc 2) 6 0)) [.expr (.append (.loc 1) (.attr (.loc 2) 6 4)),.expr (.append (.loc 1) (.attr (.loc 2) 6 5))] [],.expr (.append (.loc 1) (.attr (.loc 2) 6 6)),.expr (.append (.loc 1) (.attr (.loc 2) 6 10)),.expr (.append (.loc 1) (.attr (.loc 2) 6 9))],.forI [3] (.bf .sorted (.attr (.loc 0) 10 11)) [.expr (.append (.loc 1) (.idx (.attr (.loc 0) 10 11) (.loc 3)))],.forI [4] (.attr (.loc 0) 10 21) [.expr (.append (.loc 1) (.attr (.loc 4) 11 1))],.expr (.append (.loc 1) (.attr (.loc 0) 10 23)),.forI [5] (.attr (.loc 0) 10 24) [.expr (.append (.loc 1) (.loc 5))],.forI [3] (.bf .sorted (.attr (.loc 0) 10 13)) [.expr (.append (.loc 1) (.idx (.attr (.loc 0) 10 13) (.loc 3)))],.expr (.append (.loc 1) (.attr (.loc 0) 10 27)),.ret (.loc 1)]⟩
noncomputable def fd_collect_for:Fn:=⟨2,2,[.ite (.cmp .isNone (.attr (.loc 0) 10 28) (.lit .none)) [.assign (.attr (.loc 0) 10 28) (.new 4 33 [])] [],.ret (.call 53 [(.attr (.loc 0) 10 2),(.call 54 [(.loc 0)]),(.attr (.loc 0) 10 28),(.loc 1)])]⟩
noncomputable def fd_PlaceHost_init:Fn:=⟨4,4,[.assign (.attr (.loc 0) 5 0) (.loc 1),.assign (.attr (.loc 0) 5 1) (.loc 2),.assign (.attr (.loc 0) 5 2) (.loc 3)]⟩
noncomputable def fd_Frame_init:Fn:=⟨6,6,[.assign (.attr (.loc 0) 6 0) (.loc 1),.assign (.attr (.loc 0) 6 1) (.loc 2),.assign (.attr (.loc 0) 6 2) (.loc 3),.assign (.attr (.loc 0) 6 3) (.lit (.int 0)),.assign (.attr (.loc 0) 6 4) (.loc 4),.assign (.attr (.loc 0) 6 5) (.list []),.assign (.attr (.loc 0) 6 6) (.list []),.assign (.attr (.loc 0) 6 7) (.list []),.assign (.attr (.loc 0) 6 8) (.list []),.assign (.attr (.loc 0) 6 9) (.list []),.assign (.attr (.loc 0) 6 10) (.list []),.assign (.attr (.loc 0) 6 11) (.loc 5),.assign (.attr (.loc 0) 6 12) (.loc 1),.assign (.attr (.loc 0) 6 13) (.lit (.int 0)),.assign (.attr (.loc 0) 6 14) (.neg (.lit (.int 1)))]⟩
noncomputable def fd_Sweeper_before:Fn:=⟨2,2,[.ret (.lit .none)]⟩
noncomputable def fd_Shelf_init:Fn:=⟨3,3,[.assign (.attr (.loc 0) 10 0) (.loc 1),.assign (.attr (.loc 0) 10 1) (.attr (.loc 1) 12 0),.assign (.attr (.loc 0) 10 2) (.loc 2),.assign (.attr (.loc 0) 10 3) (.dict .dt),.assign (.attr (.loc 0) 10 4) (.dict .di),.assign (.attr (.loc 0) 10 5) (.dict .di),.assign (.attr (.loc 0) 10 6) (.dict .di),.assign (.attr (.loc 0) 10 7) (.dict .di),.assign (.attr (.loc 0) 10 8) (.dict .di),.assign (.attr (.loc 0) 10 9) (.list []),.assign (.attr (.loc 0) 10 10) (.dict .di),.assign (.attr (.loc 0) 10 11) (.dict .di),.assign (.attr (.loc 0) 10 12) (.dict .di),.assign (.attr (.loc 0) 10 13) (.dict .di),.assign (.attr (.loc 0) 10 14) (.dict .di),.assign (.attr (.loc 0) 10 15) (.dict .di),.assign (.attr (.loc 0) 10 16) (.glob 52),.assign (.attr (.loc 0) 10 17) (.list []),.assign (.attr (.loc 0) 10 18) (.list []),.assign (.attr (.loc 0) 10 19) (.list []),.assign (.attr (.loc 0) 10 20) (.list []),.assign (.attr (.loc 0) 10 21) (.list []),.assign (.attr (.loc 0) 10 22) (.dict .ds),.assign (.attr (.loc 0) 10 23) (.list []),.assign (.attr (.loc 0) 10 24) (.list []),.assign (.attr (.loc 0) 10 25) (.lit .none),.assign (.attr (.loc 0) 10 26) (.lit .none),.assign (.attr (.loc 0) 10 27) (.list []),.assign (.attr (.loc 0) 10 28) (.lit .none),.assign (.attr (.loc 0) 10 29) (.new 5 56 [(.loc 2),(.attr (.loc 0) 10 10),(.attr (.loc 0) 10 11)]),.assign (.attr (.loc 0) 10 30) (.new0 7),.assign (.attr (.loc 0) 10 31) (.new0 9),.assign (.attr (.loc 0) 10 32) (.new0 8)]⟩
noncomputable def fd_Shelf_alloc:Fn:=⟨3,3,[.ret (.call 64 [(.loc 0),(.loc 1),(.loc 2)])]⟩
noncomputable def fd_Shelf_text_ref:Fn:=⟨2,2,[.ret (.call 66 [(.loc 0),(.loc 1)])]⟩
noncomputable def fd_Shelf_new_text:Fn:=⟨2,2,[.ret (.call 65 [(.loc 0),(.loc 1)])]⟩
noncomputable def fd_first_slots:Fn:=⟨3,6,[.ite (.cmp .eq (.loc 1) (.glob 18)) [.ret (.list [(.tup [(.glob 41),(.lit (.str (Str.ofString "")))])])] [],.stuck,.stuck,.ite (.cmp .eq (.loc 3) (.glob 24)) [.stuck] [],.assign (.loc 4) (.list []),.ite (.cmp .eq (.loc 3) (.glob 22)) [.stuck] [],.while (.cmp .lt (.bf .len (.loc 4)) (.loc 2)) [.expr (.append (.loc 4) (.glob 42))],.ret (.loc 4)]⟩
noncomputable def fd_alloc_thing:Fn:=⟨3,3,[.expr (.meth (.attr (.loc 0) 10 32) 8 58 [(.loc 0)]),.ret (.call 3 [(.attr (.loc 0) 10 2),(.loc 1),(.call 63 [(.loc 0),(.loc 1),(.loc 2)])])]⟩
noncomputable def fd_made_text:Fn:=⟨2,3,[.assign (.loc 2) (.meth (.loc 0) 10 60 [(.glob 18),(.lit (.int 1))]),.assign (.idx (.attr (.loc 2) 0 2) (.lit (.int 0))) (.tup [(.glob 41),(.loc 1)]),.ret (.tup [(.glob 37),(.attr (.loc 2) 0 0)])]⟩
noncomputable def fd_interned_text:Fn:=⟨2,4,[.assign (.loc 2) (.get2 (.attr (.loc 0) 10 22) (.loc 1) (.neg (.lit (.int 1)))),.ite (.cmp .ge (.loc 2) (.lit (.int 0))) [.ret (.idx (.attr (.loc 0) 10 23) (.loc 2))] [],.assign (.loc 3) (.meth (.loc 0) 10 62 [(.loc 1)]),.assign (.idx (.attr (.loc 0) 10 22) (.loc 1)) (.bf .len (.attr (.loc 0) 10 23)),.expr (.append (.attr (.loc 0) 10 23) (.loc 3)),.ret (.loc 3)]⟩
noncomputable def fd_Chase_init:Fn:=⟨5,5,[.assign (.attr (.loc 0) 11 0) (.loc 1),.assign (.attr (.loc 0) 11 1) (.list [(.loc 2)]),.assign (.attr (.loc 0) 11 2) (.loc 3),.assign (.attr (.loc 0) 11 3) (.lit (.int 1)),.assign (.attr (.loc 0) 11 4) (.loc 4),.assign (.attr (.loc 0) 11 5) (.lit (.int 0)),.assign (.attr (.loc 0) 11 6) (.lit .none),.assign (.attr (.loc 0) 11 7) (.lit (.int 0)),.assign (.attr (.loc 0) 11 8) (.neg (.lit (.int 1)))]⟩
noncomputable def fd_Store_init:Fn:=⟨1,1,[.assign (.attr (.loc 0) 12 0) (.new 2 9 []),.assign (.attr (.loc 0) 12 1) (.list [(.lit .none)]),.assign (.attr (.loc 0) 12 2) (.list [(.lit .none)]),.assign (.attr (.loc 0) 12 3) (.list [(.lit .none)]),.assign (.attr (.loc 0) 12 4) (.dict .di),.assign (.attr (.loc 0) 12 5) (.list []),.assign (.attr (.loc 0) 12 6) (.lit (.int 0))]⟩
noncomputable def fd_law_number:Fn:=⟨1,1,[.assign (.wk (.loc 0) 1) (.bin .add (.wk (.loc 0) 1) (.lit (.int 1))),.ite (.cmp .gt (.wk (.loc 0) 1) (.bf .len (.wk (.loc 0) 0))) [.ret (.bin .mod (.bin .mul (.lit (.int 6007)) (.wk (.loc 0) 1)) (.lit (.int 99991)))] [],.ret (.bin .mod (.idx (.wk (.loc 0) 0) (.bin .sub (.wk (.loc 0) 1) (.lit (.int 1)))) (.lit (.int 99991)))]⟩
noncomputable def fd_law_value:Fn:=⟨2,7,[.assign (.locs [2,3,4]) (.loc 1),.assign (.loc 5) (.lit (.int 0)),.ite (.cmp .gt (.loc 3) (.lit (.int 0))) [.assign (.loc 5) (.idx (.wk (.loc 0) 6) (.loc 3))] [],.ite (.cmp .eq (.loc 2) (.lit (.int 0))) [.ret (.tup [(.glob 37),(.loc 5)])] [],.ite (.cmp .eq (.loc 2) (.lit (.int 1))) [.ret (.tup [(.glob 39),(.tup [(.glob 44),(.bin .add (.bin .add (.loc 5) (.lit (.int 2))) (.loc 4)),(.tup [(.loc 4)])])])] [],.assign (.loc 6) (.tup [(.glob 38),(.wk (.loc 0) 13),(.tup [(.tup [(.glob 34),(.loc 4)]),(.tup [(.glob 37),(.loc 5)])])]),.ite (.cmp .eq (.loc 2) (.lit (.int 2))) [.ret (.loc 6)] [],.ite (.cmp .eq (.loc 2) (.lit (.int 3))) [.ret (.tup [(.glob 38),(.wk (.loc 0) 14),(.tup [(.loc 6),(.tup [(.glob 34),(.lit (.int 16))])])])] [],.ite (.cmp .eq (.loc 2) (.lit (.int 4))) [.ret (.tup [(.glob 34),(.bin .add (.lit (.int 16)) (.loc 4))])] [],.ite (.cmp .eq (.loc 2) (.lit (.int 5))) [.ret (.tup [(.glob 39),(.tup [(.glob 43),(.lit (.int 1)),(.loc 4),(.tup [])])])] [],.ite (.cmp .eq (.loc 2) (.lit (.int 6))) [.ret (.tup [(.glob 40),(.tup [(.idx (.wk (.loc 0) 12) (.lit (.int 0))),(.bin .add (.lit (.int 1)) (.loc 4)),(.tup [])])])] [],.ret (.tup [(.glob 41),(.idx (.glob 60) (.loc 4))])]⟩
noncomputable def fd_law_noted:Fn:=⟨3,3,[.assign (.wk (.loc 0) 3) (.bin .add (.wk (.loc 0) 3) (.lit (.int 1))),.assign (.idx (.wk (.loc 0) 4) (.wk (.loc 0) 3)) (.tup [(.loc 1),(.loc 2)]),.assign (.idx (.wk (.loc 0) 5) (.wk (.loc 0) 3)) (.lit (.int 0)),.assign (.idx (.wk (.loc 0) 6) (.wk (.loc 0) 3)) (.wk (.loc 0) 7),.assign (.wk (.loc 0) 7) (.bin .add (.bin .add (.wk (.loc 0) 7) (.lit (.int 2))) (.bf .len (.loc 2))),.ret (.wk (.loc 0) 3)]⟩
noncomputable def fd_law_fresh:Fn:=⟨2,6,[.assign (.loc 2) (.lit (.int 0)),.forR 3 (.bin .add (.lit (.int 1)) (.bin .mod (.loc 1) (.lit (.int 2)))) [.assign (.loc 4) (.list [(.tup [(.lit (.int 4)),(.lit (.int 0)),(.loc 3)]),(.tup [(.idx (.tup [(.lit (.int 0)),(.lit (.int 2)),(.lit (.int 3))]) (.bin .mod (.bin .add (.bin .fdiv (.loc 1) (.lit (.int 2))) (.loc 3)) (.lit (.int 3)))),(.loc 2),(.loc 3)])]),.assign (.loc 5) (.idx (.wk (.loc 0) 12) (.bin .mod (.bin .add (.loc 1) (.loc 3)) (.lit (.int 2)))),.expr (.call 3 [(.attr (.wk (.loc 0) 2) 10 2),(.loc 5),(.comp (.call 70 [(.loc 0),(.loc 1)]) [0] (.loc 4) (.lit (.bool true)))]),.assign (.loc 2) (.call 71 [(.loc 0),(.loc 5),(.loc 4)])],.ret (.loc 2)]⟩
noncomputable def fd_law_put:Fn:=⟨4,5,[.forI [4] (.loc 3) [.expr (.append (.loc 2) (.call 70 [(.loc 0),(.loc 4)]))],.expr (.append (.wk (.loc 0) 11) (.tup [(.loc 1),(.loc 2),(.loc 3)]))]⟩
noncomputable def fd_law_fill:Fn:=⟨5,9,[.assign (.loc 5) (.list []),.forR 6 (.idx (.tup [(.lit (.int 1)),(.lit (.int 1)),(.lit (.int 2)),(.lit (.int 0))]) (.bin .mod (.loc 3) (.lit (.int 4)))) [.assign (.loc 7) (.idx (.loc 4) (.bin .mod (.bin .add (.bin .fdiv (.loc 3) (.lit (.int 4))) (.loc 6)) (.bf .len (.loc 4)))),.assign (.loc 8) (.lit (.int 0)),.ite (.cmp .lt (.loc 7) (.lit (.int 4))) [.assign (.loc 8) (.call 72 [(.loc 0),(.bin .add (.bin .fdiv (.loc 3) (.lit (.int 28))) (.loc 6))])] [],.expr (.append (.loc 5) (.tup [(.loc 7),(.loc 8),(.bin .mod (.bin .add (.loc 3) (.loc 6)) (.lit (.int 2)))]))],.expr (.call 73 [(.loc 0),(.loc 1),(.loc 2),(.loc 5)])]⟩
noncomputable def fd_law_drop:Fn:=⟨2,2,[.assign (.wk (.loc 0) 11) (.comp (.loc 1) [1] (.wk (.loc 0) 11) (.cmp .ne (.idx (.loc 1) (.lit (.int 0))) (.loc 0)))]⟩
noncomputable def fd_law_newest:Fn:=⟨1,4,[.forI [1,2,3] (.wk (.loc 0) 11) [.ite (.bo true [(.cmp .gt (.bf .len (.wk (.loc 0) 9)) (.lit (.int 0))),(.cmp .eq (.loc 1) (.idx (.wk (.loc 0) 9) (.neg (.lit (.int 1)))))]) [.ret (.idx (.loc 3) (.lit (.int 0)))] []],.ret (.tup [(.lit (.int 0)),(.call 72 [(.loc 0),(.lit (.int 0))]),(.lit (.int 0))])]⟩
noncomputable def fd_law_fly:Fn:=⟨2,5,[.assign (.wk (.loc 0) 8) (.bin .add (.wk (.loc 0) 8) (.lit (.int 1))),.assign (.loc 2) (.bin .add (.lit (.str (Str.ofString "chase "))) (.bf .str (.wk (.loc 0) 8))),.assign (.loc 3) (.tup [(.lit (.int 0)),(.call 72 [(.loc 0),(.loc 1)]),(.lit (.int 0))]),.assign (.loc 4) (.new 11 67 [(.wk (.loc 0) 8),(.call 70 [(.loc 0),(.loc 3)]),(.lit (.int 1)),(.lit (.int 0))]),.expr (.append (.attr (.wk (.loc 0) 2) 10 21) (.loc 4)),.expr (.append (.wk (.loc 0) 9) (.loc 2)),.expr (.append (.wk (.loc 0) 11) (.tup [(.loc 2),(.attr (.loc 4) 11 1),(.list [(.loc 3)])]))]⟩
noncomputable def fd_law_stand:Fn:=⟨2,9,[.assign (.loc 2) (.wk (.loc 0) 2),.assign (.wk (.loc 0) 8) (.bin .add (.wk (.loc 0) 8) (.lit (.int 1))),.assign (.loc 3) (.bin .add (.lit (.str (Str.ofString "frame "))) (.bf .str (.wk (.loc 0) 8))),.assign (.loc 4) (.tup [(.idx (.wk (.loc 0) 12) (.lit (.int 0))),(.lit (.int 1)),(.tup [])]),.assign (.loc 5) (.bf .len (.attr (.loc 2) 10 9)),.assign (.loc 6) (.bin .fdiv (.loc 1) (.lit (.int 12))),.ite (.bo true [(.cmp .eq (.bin .mod (.loc 1) (.lit (.int 3))) (.lit (.int 2))),(.cmp .gt (.loc 5) (.lit (.int 0)))]) [.assign (.loc 7) (.idx (.attr (.loc 2) 10 9) (.bin .mod (.bin .fdiv (.loc 1) (.lit (.int 3))) (.loc 5))),.assign (.loc 8) (.new 6 57 [(.wk (.loc 0) 8),(.loc 4),(.lit .none),(.attr (.loc 7) 6 4),(.glob 55)]),.assign (.attr (.loc 8) 6 5) (.attr (.loc 7) 6 5),.assign (.attr (.loc 8) 6 12) (.attr (.loc 7) 6 12),.ite (.cmp .eq (.bin .mod (.loc 6) (.lit (.int 2))) (.lit (.int 0))) [.expr (.call 73 [(.loc 0),(.loc 3),(.attr (.loc 8) 6 6),(.list [(.call 76 [(.loc 0)])])])] [.expr (.call 74 [(.loc 0),(.loc 3),(.attr (.loc 8) 6 6),(.loc 6),(.glob 61)])]] [.assign (.loc 8) (.new 6 57 [(.wk (.loc 0) 8),(.loc 4),(.lit .none),(.list []),(.idx (.tup [(.glob 54),(.glob 56),(.glob 57),(.glob 58)]) (.bin .mod (.bin .fdiv (.loc 1) (.lit (.int 3))) (.lit (.int 4))))]),.expr (.call 74 [(.loc 0),(.loc 3),(.attr (.loc 8) 6 4),(.loc 6),(.glob 61)]),.expr (.call 74 [(.loc 0),(.loc 3),(.attr (.loc 8) 6 5),(.bin .add (.loc 6) (.lit (.int 9))),(.glob 61)]),.expr (.call 74 [(.loc 0),(.loc 3),(.attr (.loc 8) 6 6),(.bin .add (.loc 6) (.lit (.int 18))),(.glob 61)])],.expr (.call 74 [(.loc 0),(.loc 3),(.attr (.loc 8) 6 10),(.bin .add (.loc 6) (.lit (.int 5))),(.glob 61)]),.expr (.call 74 [(.loc 0),(.loc 3),(.attr (.loc 8) 6 9),(.bin .fdiv (.loc 6) (.lit (.int 2))),(.tup [(.lit (.int 0))])]),.expr (.append (.attr (.loc 2) 10 9) (.loc 8))]⟩
noncomputable def fd_law_fail:Fn:=⟨2,4,[.assign (.loc 2) (.wk (.loc 0) 2),.assign (.loc 3) (.call 17 [(.attr (.loc 2) 10 1),(.bin .add (.lit (.int 70)) (.bf .len (.attr (.loc 2) 10 13))),(.tup [])]),.assign (.idx (.attr (.loc 2) 10 13) (.loc 3)) (.list []),.expr (.call 73 [(.loc 0),(.lit (.str (Str.ofString "fail"))),(.idx (.attr (.loc 2) 10 13) (.loc 3)),(.list [(.tup [(.lit (.int 0)),(.call 72 [(.loc 0),(.loc 1)]),(.lit (.int 0))])])])]⟩
noncomputable def fd_law_hold:Fn:=⟨2,2,[.expr (.append (.attr (.wk (.loc 0) 2) 10 24) (.list [])),.expr (.call 74 [(.loc 0),(.bin .add (.lit (.str (Str.ofString "held "))) (.bf .str (.bf .len (.attr (.wk (.loc 0) 2) 10 24)))),(.idx (.attr (.wk (.loc 0) 2) 10 24) (.neg (.lit (.int 1)))),(.loc 1),(.glob 61)])]⟩
noncomputable def fd_law_text:Fn:=⟨2,6,[.assign (.locs [2,3,4]) (.idx (.wk (.loc 0) 11) (.lit (.int 0))),.assign (.loc 5) (.meth (.wk (.loc 0) 2) 10 61 [(.idx (.glob 60) (.loc 1))]),.ite (.cmp .nmem (.loc 1) (.wk (.loc 0) 10)) [.assign (.idx (.wk (.loc 0) 10) (.loc 1)) (.bf .len (.loc 4)),.expr (.append (.loc 4) (.tup [(.lit (.int 0)),(.call 71 [(.loc 0),(.glob 18),(.list [(.tup [(.lit (.int 7)),(.lit (.int 0)),(.loc 1)])])]),(.lit (.int 0))]))] [],.ret (.cmp .eq (.loc 5) (.call 70 [(.loc 0),(.idx (.loc 4) (.idx (.wk (.loc 0) 10) (.loc 1)))]))]⟩
noncomputable def fd_law_named:Fn:=⟨1,4,[.assign (.loc 1) (.comp (.loc 0) [] (.call 54 [(.wk (.loc 0) 2)]) (.cmp .gt (.bf .len (.loc 0)) (.lit (.int 0)))),.assign (.loc 2) (.comp (.idx (.loc 0) (.lit (.int 1))) [] (.wk (.loc 0) 11) (.cmp .gt (.bf .len (.idx (.loc 0) (.lit (.int 1)))) (.lit (.int 0)))),.forI [3] (.loc 2) [.ite (.cmp .nmem (.loc 3) (.loc 1)) [.ret (.lit (.bool false))] []],.ret (.cmp .eq (.bf .len (.loc 1)) (.bf .len (.loc 2)))]⟩
noncomputable def fd_law_reached:Fn:=⟨1,5,[.assign (.loc 1) (.comp2 (.idx (.loc 1) (.lit (.int 1))) (.wk (.loc 0) 11) (.idx (.loc 0) (.lit (.int 2)))),.assign (.loc 2) (.dict .di),.while (.cmp .gt (.bf .len (.loc 1)) (.lit (.int 0))) [.assign (.loc 3) (.pop (.loc 1)),.ite (.bo true [(.cmp .gt (.loc 3) (.lit (.int 0))),(.cmp .nmem (.loc 3) (.loc 2))]) [.assign (.idx (.loc 2) (.loc 3)) (.lit (.int 1)),.forI [4] (.idx (.idx (.wk (.loc 0) 4) (.loc 3)) (.lit (.int 1))) [.expr (.append (.loc 1) (.idx (.loc 4) (.lit (.int 1))))]] []],.ret (.loc 2)]⟩
noncomputable def fd_law_same:Fn:=⟨1,7,[.assign (.loc 1) (.attr (.wk (.loc 0) 2) 10 2),.ite (.bo false [(.cmp .ne (.comp (.attr (.loc 0) 0 5) [] (.attr (.loc 1) 1 0) (.lit (.bool true))) (.bf .sorted (.wk (.loc 0) 5))),(.cmp .ne (.attr (.loc 1) 1 2) (.wk (.loc 0) 7))]) [.ret (.lit (.bool false))] [],.forI [2] (.attr (.loc 1) 1 0) [.assign (.locs [3,4]) (.idx (.wk (.loc 0) 4) (.attr (.loc 2) 0 5)),.ite (.bo false [(.cmp .ne (.attr (.loc 2) 0 0) (.idx (.wk (.loc 0) 6) (.attr (.loc 2) 0 5))),(.cmp .ne (.attr (.loc 2) 0 3) (.idx (.wk (.loc 0) 5) (.attr (.loc 2) 0 5))),(.cmp .ne (.attr (.loc 2) 0 1) (.loc 3))]) [.ret (.lit (.bool false))] [],.ite (.cmp .ne (.attr (.loc 2) 0 2) (.comp (.call 70 [(.loc 0),(.loc 1)]) [0] (.loc 4) (.lit (.bool true)))) [.ret (.lit (.bool false))] []],.forI [5,6,4] (.wk (.loc 0) 11) [.ite (.cmp .ne (.loc 6) (.comp (.call 70 [(.loc 0),(.loc 1)]) [0] (.loc 4) (.lit (.bool true)))) [.ret (.lit (.bool false))] []],.ret (.lit (.bool true))]⟩
noncomputable def fd_law_gone:Fn:=⟨2,7,[.ite (.not (.call 82 [(.loc 0)])) [.ret (.lit (.bool false))] [],.assign (.loc 2) (.call 83 [(.loc 0)]),.assign (.loc 3) (.bf .len (.wk (.loc 0) 5)),.assign (.loc 4) (.dict .di),.assign (.wk (.loc 0) 6) (.dict .di),.assign (.wk (.loc 0) 7) (.lit (.int 16)),.forI [5] (.bf .sorted (.wk (.loc 0) 5)) [.assign (.loc 6) (.idx (.wk (.loc 0) 5) (.loc 5)),.ite (.bo false [(.cmp .gt (.loc 6) (.loc 1)),(.cmp .mem (.loc 5) (.loc 2))]) [.ite (.bo true [(.cmp .le (.loc 6) (.loc 1)),(.cmp .lt (.loc 6) (.lit (.int 2)))]) [.assign (.loc 6) (.bin .add (.loc 6) (.lit (.int 1)))] [],.assign (.idx (.loc 4) (.loc 5)) (.loc 6),.assign (.idx (.wk (.loc 0) 6) (.loc 5)) (.wk (.loc 0) 7),.assign (.wk (.loc 0) 7) (.bin .add (.bin .add (.wk (.loc 0) 7) (.lit (.int 2))) (.bf .len (.idx (.idx (.wk (.loc 0) 4) (.loc 5)) (.lit (.int 1)))))] []],.assign (.wk (.loc 0) 5) (.loc 4),.ret (.bo true [(.cmp .eq (.call 55 [(.wk (.loc 0) 2),(.loc 1)]) (.bin .sub (.loc 3) (.bf .len (.loc 4)))),(.call 84 [(.loc 0)])])]⟩
noncomputable def fd_law_deed:Fn:=⟨2,10,[.assign (.loc 2) (.wk (.loc 0) 2),.assign (.loc 3) (.bin .mod (.loc 1) (.lit (.int 8))),.assign (.loc 4) (.bin .fdiv (.loc 1) (.lit (.int 8))),.ite (.cmp .lt (.loc 3) (.lit (.int 2))) [.ite (.cmp .gt (.bf .len (.attr (.loc 2) 10 21)) (.lit (.int 0))) [.assign (.loc 5) (.bin .mul (.bin .sub (.bf .len (.attr (.loc 2) 10 21)) (.lit (.int 1))) (.bin .sub (.lit (.int 1)) (.loc 3))),.expr (.popAt (.attr (.loc 2) 10 21) (.loc 5)),.expr (.call 75 [(.loc 0),(.popAt (.wk (.loc 0) 9) (.loc 5))])] []] [.ite (.cmp .eq (.loc 3) (.lit (.int 2))) [.expr (.call 77 [(.loc 0),(.loc 4)])] [.ite (.cmp .eq (.loc 3) (.lit (.int 3))) [.ite (.cmp .gt (.bf .len (.attr (.loc 2) 10 9)) (.lit (.int 1))) [.assign (.loc 6) (.pop (.attr (.loc 2) 10 9)),.expr (.call 75 [(.loc 0),(.bin .add (.lit (.str (Str.ofString "frame "))) (.bf .str (.attr (.loc 6) 6 0)))])] []] [.ite (.cmp .eq (.loc 3) (.lit (.int 4))) [.expr (.call 78 [(.loc 0),(.loc 4)])] [.ite (.cmp .lt (.loc 3) (.lit (.int 7))) [.assign (.locs [7,8,9]) (.idx (.wk (.loc 0) 11) (.bin .add (.lit (.int 1)) (.bin .mod (.loc 4) (.bin .sub (.bf .len (.wk (.loc 0) 11)) (.lit (.int 1)))))),.ite (.cmp .gt (.bf .len (.loc 9)) (.lit (.int 0))) [.assign (.idx (.loc 9) (.lit (.int 0))) (.tup [(.lit (.int 0)),(.lit (.int 0)),(.lit (.int 0))]),.ite (.cmp .eq (.loc 3) (.lit (.int 5))) [.assign (.idx (.loc 9) (.lit (.int 0))) (.tup [(.lit (.int 0)),(.call 72 [(.loc 0),(.loc 4)]),(.lit (.int 0))])] [],.assign (.idx (.loc 8) (.lit (.int 0))) (.call 70 [(.loc 0),(.idx (.loc 9) (.lit (.int 0)))])] []] [.ite (.cmp .eq (.bin .mod (.loc 4) (.lit (.int 3))) (.lit (.int 0))) [.ret (.call 81 [(.loc 0),(.bin .mod (.bin .fdiv (.loc 4) (.lit (.int 3))) (.lit (.int 3)))])] [.ite (.cmp .eq (.bin .mod (.loc 4) (.lit (.int 3))) (.lit (.int 1))) [.expr (.call 79 [(.loc 0),(.loc 4)])] [.ite (.cmp .gt (.bf .len (.attr (.loc 2) 10 24)) (.lit (.int 0))) [.expr (.call 75 [(.loc 0),(.bin .add (.lit (.str (Str.ofString "held "))) (.bf .str (.bf .len (.attr (.loc 2) 10 24))))]),.expr (.pop (.attr (.loc 2) 10 24))] []]]]]]]],.ret (.lit (.bool true))]⟩
noncomputable def fd_law:Fn:=⟨1,7,[.assign (.loc 0) (.cut (.loc 0) 16),.assign (.loc 1) (.new 12 68 []),.assign (.loc 2) (.new 10 59 [(.loc 1),(.new 1 2 [(.lit (.int 100000)),(.lit (.int 3))])]),.assign (.loc 3) (.wd [(.loc 0),(.lit (.int 0)),(.loc 2),(.lit (.int 0)),(.dict .di),(.dict .di),(.dict .di),(.lit (.int 16)),(.lit (.int 0)),(.list []),(.dict .di),(.list [(.tup [(.lit (.str (Str.ofString "texts"))),(.attr (.loc 2) 10 23),(.list [])])])]),.assign (.wk (.loc 3) 12) (.tup [(.call 17 [(.attr (.loc 1) 12 0),(.lit (.int 64)),(.tup [])]),(.call 17 [(.attr (.loc 1) 12 0),(.lit (.int 65)),(.tup [])])]),.assign (.wk (.loc 3) 13) (.call 18 [(.attr (.loc 1) 12 0),(.lit (.int 66)),(.tup [])]),.assign (.wk (.loc 3) 14) (.call 18 [(.attr (.loc 1) 12 0),(.lit (.int 67)),(.tup [])]),.expr (.call 72 [(.loc 3),(.lit (.int 0))]),.assign (.loc 4) (.call 69 [(.loc 3)]),.forR 5 (.bin .add (.lit (.int 1)) (.bin .mod (.loc 4) (.lit (.int 6)))) [.expr (.call 77 [(.loc 3),(.bin .add (.bin .fdiv (.loc 4) (.lit (.int 6))) (.loc 5))])],.forR 5 (.bin .add (.lit (.int 2)) (.bin .mod (.call 69 [(.loc 3)]) (.lit (.int 3)))) [.expr (.call 78 [(.loc 3),(.call 69 [(.loc 3)])])],.assign (.loc 4) (.call 69 [(.loc 3)]),.forR 5 (.lit (.int 2)) [.assign (.idx (.attr (.loc 2) 10 11) (.idx (.wk (.loc 3) 12) (.bin .sub (.lit (.int 1)) (.loc 5)))) (.list []),.expr (.call 74 [(.loc 3),(.lit (.str (Str.ofString "statics"))),(.idx (.attr (.loc 2) 10 11) (.idx (.wk (.loc 3) 12) (.bin .sub (.lit (.int 1)) (.loc 5)))),(.bin .add (.loc 4) (.bin .mul (.lit (.int 5)) (.loc 5))),(.glob 62)])],.forR 5 (.bin .add (.lit (.int 1)) (.bin .mod (.loc 4) (.lit (.int 2)))) [.expr (.call 79 [(.loc 3),(.bin .add (.bin .fdiv (.loc 4) (.lit (.int 2))) (.loc 5))]),.expr (.call 80 [(.loc 3),(.bin .add (.bin .fdiv (.loc 4) (.lit (.int 4))) (.bin .mul (.lit (.int 3)) (.loc 5)))])],.ite (.cmp .gt (.bin .mod (.loc 4) (.lit (.int 3))) (.lit (.int 0))) [.expr (.call 73 [(.loc 3),(.lit (.str (Str.ofString "unhandled"))),(.attr (.loc 2) 10 27),(.list [(.call 76 [(.loc 3)])])])] [],.forR 6 (.bin .add (.lit (.int 1)) (.bin .mod (.bin .fdiv (.loc 4) (.lit (.int 3))) (.lit (.int 3)))) [.ite (.not (.call 81 [(.loc 3),(.loc 6)])) [.ret (.lit (.bool false))] []],.forR 5 (.bin .add (.lit (.int 2)) (.bin .fdiv (.bf .len (.loc 0)) (.lit (.int 6)))) [.assign (.loc 4) (.call 69 [(.loc 3)]),.ite (.not (.call 85 [(.loc 3),(.bin .mod (.loc 4) (.lit (.int 3)))])) [.ret (.lit (.bool false))] [],.expr (.call 72 [(.loc 3),(.loc 4)]),.ite (.not (.call 86 [(.loc 3),(.bin .fdiv (.loc 4) (.lit (.int 3)))])) [.ret (.lit (.bool false))] []],.ret (.call 85 [(.loc 3),(.lit (.int 2))])]⟩
noncomputable def fns:List Fn:=[fd_words_for,fd_Thing_init,fd_Heap_init,fd_heap_alloc,fd_used_words,fd_note_collected,fd_find_thing,fd_slot_word,fd_card_number,fd_KindTable_init,fd_KindTable_put,fd_inner_kinds,fd_row_level,fd_row_length,fd_check_kind_row,fd_check_named,fd_check_args,fd_class_kind,fd_value_kind,fd_refs_in,fd_move_value,fd_move_plain,fd_move_struct,fd_words_of,fd_push_word,fd_push_value,fd_drain,fd_old_slots,fd_mark,fd_reach_more,fd_refers_younger,fd_younger_slots,fd_renew_cards,fd_Handles_init,fd_strong_values,fd_clear_handles,fd_move_handles,fd_pick_finals,fd_end_of_older,fd_plan_moves,fd_Words_init,fd_Words_new_word,fd_moved_word,fd_stays,fd_moved_values,fd_new_lists,fd_put_lists,fd_moved_addrs,fd_settle_thing,fd_settle_things,fd_move_all,fd_root_lists,fd_find_living,fd_collect,fd_roots,fd_collect_for,fd_PlaceHost_init,fd_Frame_init,fd_Sweeper_before,fd_Shelf_init,fd_Shelf_alloc,fd_Shelf_text_ref,fd_Shelf_new_text,fd_first_slots,fd_alloc_thing,fd_made_text,fd_interned_text,fd_Chase_init,fd_Store_init,fd_law_number,fd_law_value,fd_law_noted,fd_law_fresh,fd_law_put,fd_law_fill,fd_law_drop,fd_law_newest,fd_law_fly,fd_law_stand,fd_law_fail,fd_law_hold,fd_law_text,fd_law_named,fd_law_reached,fd_law_same,fd_law_gone,fd_law_deed,fd_law]
noncomputable def gtab:List V:=[.int 16,.int 2,.int 3,.int 2,.int 2,.int 0,.int 1,.int 2,.int 3,.int 4,.int 5,.int 6,.int 7,.int 8,.int 9,.int 10,.int 11,.int 12,.int 13,.int 14,.int 16,.int 1,.int 2,.int 3,.int 4,.int 5,.int 6,.int 7,.int 8,.int 9,.int 10,.int 11,.int 24,.int 4096,.int 1,.int 2,.int 3,.int 4,.int 5,.int 6,.int 7,.int 8,.tup [.int 4,.int 0],.int 1,.int 3,.int 1,.int 2,.int 3,.int 0,.int 1,.int 2,.int (-2),.int 0,.int 3,.int 0,.int 1,.int 2,.int 3,.int 4,.tup [.int 0,.int 0],.tup [.str (Str.ofString ""),.str (Str.ofString "a"),.str (Str.ofString "ab")],.tup [.int 0,.int 1,.int 2,.int 3,.int 4,.int 5,.int 6],.tup [.int 0,.int 2,.int 3,.int 4]]
noncomputable def tab:Tab where
 gnames:=[Str.ofString "FIRST_ADDRESS",Str.ofString "HEAD_WORDS",Str.ofString "LEAST_SIZE",Str.ofString "TOP_GEN",Str.ofString "W_EMPTY",Str.ofString "VOID",Str.ofString "BOOL",Str.ofString "CHAR",Str.ofString "I1",Str.ofString "U1",Str.ofString "I2",Str.ofString "U2",Str.ofString "I4",Str.ofString "U4",Str.ofString "I8",Str.ofString "U8",Str.ofString "NINT",Str.ofString "OBJECT",Str.ofString "STRING",Str.ofString "NULLK",Str.ofString "PRIM_END",Str.ofString "R_PRIM",Str.ofString "R_CLASS",Str.ofString "R_VALUE",Str.ofString "R_ARRAY",Str.ofString "R_BYREF",Str.ofString "R_VAR",Str.ofString "R_MVAR",Str.ofString "R_BOXED",Str.ofString "R_ROREF",Str.ofString "R_FTN",Str.ofString "R_RAW",Str.ofString "DEEPEST_KIND",Str.ofString "HEAVIEST_KIND",Str.ofString "V_I4",Str.ofString "V_I8",Str.ofString "V_NINT",Str.ofString "V_REF",Str.ofString "V_STRUCT",Str.ofString "V_PLACE",Str.ofString "V_FTN",Str.ofString "V_TEXT",Str.ofString "NULLV",Str.ofString "PL_LOCAL",Str.ofString "PL_HEAP",Str.ofString "H_SHORT",Str.ofString "H_LONG",Str.ofString "H_STRONG",Str.ofString "ROW_SORT",Str.ofString "ROW_ADDR",Str.ofString "ROW_ALIVE",Str.ofString "JP_STAY",Str.ofString "ST_RUN",Str.ofString "ST_WRONG",Str.ofString "FR_CALL",Str.ofString "FR_FILTER",Str.ofString "FR_CCTOR",Str.ofString "FR_NEW",Str.ofString "FR_MULTI",Str.ofString "LOST",Str.ofString "_law_WORDS",Str.ofString "_law_ALL",Str.ofString "_law_PLAIN"]
 gfns:=[(Str.ofString "words_for",0),(Str.ofString "heap_alloc",3),(Str.ofString "used_words",4),(Str.ofString "note_collected",5),(Str.ofString "find_thing",6),(Str.ofString "slot_word",7),(Str.ofString "card_number",8),(Str.ofString "inner_kinds",11),(Str.ofString "row_level",12),(Str.ofString "row_length",13),(Str.ofString "check_kind_row",14),(Str.ofString "check_named",15),(Str.ofString "check_args",16),(Str.ofString "class_kind",17),(Str.ofString "value_kind",18),(Str.ofString "refs_in",19),(Str.ofString "move_value",20),(Str.ofString "move_plain",21),(Str.ofString "move_struct",22),(Str.ofString "words_of",23),(Str.ofString "push_word",24),(Str.ofString "push_value",25),(Str.ofString "drain",26),(Str.ofString "old_slots",27),(Str.ofString "mark",28),(Str.ofString "reach_more",29),(Str.ofString "refers_younger",30),(Str.ofString "younger_slots",31),(Str.ofString "renew_cards",32),(Str.ofString "strong_values",34),(Str.ofString "clear_handles",35),(Str.ofString "move_handles",36),(Str.ofString "pick_finals",37),(Str.ofString "end_of_older",38),(Str.ofString "plan_moves",39),(Str.ofString "moved_word",42),(Str.ofString "stays",43),(Str.ofString "moved_values",44),(Str.ofString "new_lists",45),(Str.ofString "put_lists",46),(Str.ofString "moved_addrs",47),(Str.ofString "settle_thing",48),(Str.ofString "settle_things",49),(Str.ofString "move_all",50),(Str.ofString "root_lists",51),(Str.ofString "find_living",52),(Str.ofString "collect",53),(Str.ofString "roots",54),(Str.ofString "collect_for",55),(Str.ofString "first_slots",63),(Str.ofString "alloc_thing",64),(Str.ofString "made_text",65),(Str.ofString "interned_text",66),(Str.ofString "_law_number",69),(Str.ofString "_law_value",70),(Str.ofString "_law_noted",71),(Str.ofString "_law_fresh",72),(Str.ofString "_law_put",73),(Str.ofString "_law_fill",74),(Str.ofString "_law_drop",75),(Str.ofString "_law_newest",76),(Str.ofString "_law_fly",77),(Str.ofString "_law_stand",78),(Str.ofString "_law_fail",79),(Str.ofString "_law_hold",80),(Str.ofString "_law_text",81),(Str.ofString "_law_named",82),(Str.ofString "_law_reached",83),(Str.ofString "_law_same",84),(Str.ofString "_law_gone",85),(Str.ofString "_law_deed",86),(Str.ofString "law",87)]
 cnames:=[Str.ofString "Thing",Str.ofString "Heap",Str.ofString "KindTable",Str.ofString "Words",Str.ofString "Handles",Str.ofString "PlaceHost",Str.ofString "Frame",Str.ofString "Starter",Str.ofString "Sweeper",Str.ofString "KindCloser",Str.ofString "Shelf",Str.ofString "Chase",Str.ofString "Store"]
 attrs:=[[Str.ofString "addr",Str.ofString "kind",Str.ofString "slots",Str.ofString "gen",Str.ofString "size",Str.ofString "serial"],[Str.ofString "things",Str.ofString "at",Str.ofString "top",Str.ofString "limit",Str.ofString "cards",Str.ofString "card_bits",Str.ofString "fresh",Str.ofString "young_limit",Str.ofString "finals",Str.ofString "ready",Str.ofString "moved",Str.ofString "made"],[Str.ofString "rows",Str.ofString "index",Str.ofString "depths",Str.ofString "weights",Str.ofString "opens"],[Str.ofString "heap",Str.ofString "moves"],[Str.ofString "rows"],[Str.ofString "heap",Str.ofString "frames",Str.ofString "statics"],[Str.ofString "number",Str.ofString "mref",Str.ofString "body",Str.ofString "ip",Str.ofString "args",Str.ofString "locals_",Str.ofString "stack",Str.ofString "conts",Str.ofString "caught",Str.ofString "caughtv",Str.ofString "keep",Str.ofString "sort",Str.ofString "home",Str.ofString "extra",Str.ofString "prefix"],[],[],[],[Str.ofString "store",Str.ofString "kt",Str.ofString "heap",Str.ofString "kin",Str.ofString "rows",Str.ofString "targets",Str.ofString "defaults",Str.ofString "unders",Str.ofString "finals",Str.ofString "frames",Str.ofString "by_number",Str.ofString "statics",Str.ofString "inits",Str.ofString "fails",Str.ofString "ops",Str.ofString "natives",Str.ofString "state",Str.ofString "told",Str.ofString "thrown",Str.ofString "calls",Str.ofString "pushed",Str.ofString "chases",Str.ofString "interned",Str.ofString "internv",Str.ofString "held",Str.ofString "result",Str.ofString "last",Str.ofString "unhandled",Str.ofString "handles",Str.ofString "places",Str.ofString "starter",Str.ofString "closer",Str.ofString "sweeper"],[Str.ofString "number",Str.ofString "cell",Str.ofString "throw_number",Str.ofString "pass_",Str.ofString "at",Str.ofString "clause",Str.ofString "goal",Str.ofString "filter_number",Str.ofString "ip"],[Str.ofString "kt",Str.ofString "types",Str.ofString "fields_",Str.ofString "methods",Str.ofString "names",Str.ofString "asms",Str.ofString "entry"]]
 meths:=[(2,Str.ofString "put",10),(3,Str.ofString "new_word",41),(8,Str.ofString "before",58),(10,Str.ofString "alloc",60),(10,Str.ofString "text_ref",61),(10,Str.ofString "new_text",62)]
 inits:=[(0,1),(1,2),(2,9),(4,33),(3,40),(5,56),(6,57),(10,59),(11,67),(12,68)]
 new0s:=[7,8,9]
 wks:=[Str.ofString "script",Str.ofString "at",Str.ofString "m",Str.ofString "made",Str.ofString "things",Str.ofString "ages",Str.ofString "where",Str.ofString "top",Str.ofString "count",Str.ofString "flying",Str.ofString "texts",Str.ofString "cells",Str.ofString "kinds",Str.ofString "pair",Str.ofString "outer"]
noncomputable def places:List (List Str):=[[Str.ofString "count"],[Str.ofString "self",Str.ofString "addr",Str.ofString "kind",Str.ofString "slots"],[Str.ofString "self",Str.ofString "limit",Str.ofString "card_bits"],[Str.ofString "heap",Str.ofString "kind",Str.ofString "slots",Str.ofString "thing"],[Str.ofString "heap"],[Str.ofString "heap",Str.ofString "gen"],[Str.ofString "heap",Str.ofString "word",Str.ofString "exact",Str.ofString "low",Str.ofString "high",Str.ofString "middle",Str.ofString "thing"],[Str.ofString "thing",Str.ofString "slot"],[Str.ofString "heap",Str.ofString "word"],[Str.ofString "self",Str.ofString "number",Str.ofString "row"],[Str.ofString "self",Str.ofString "row",Str.ofString "found",Str.ofString "depth",Str.ofString "weight",Str.ofString "opened",Str.ofString "level",Str.ofString "inner",Str.ofString "k"],[Str.ofString "row",Str.ofString "sort"],[Str.ofString "sort"],[Str.ofString "sort"],[Str.ofString "kt",Str.ofString "row",Str.ofString "sort",Str.ofString "inner"],[Str.ofString "kt",Str.ofString "row"],[Str.ofString "kt",Str.ofString "args",Str.ofString "arg"],[Str.ofString "kt",Str.ofString "tid",Str.ofString "args"],[Str.ofString "kt",Str.ofString "tid",Str.ofString "args"],[Str.ofString "value",Str.ofString "found",Str.ofString "todo",Str.ofString "top",Str.ofString "place"],[Str.ofString "value",Str.ofString "forward",Str.ofString "words"],[Str.ofString "value",Str.ofString "forward",Str.ofString "words",Str.ofString "place"],[Str.ofString "value",Str.ofString "forward",Str.ofString "words",Str.ofString "todo",Str.ofString "rebuilt",Str.ofString "struct_value",Str.ofString "items",Str.ofString "item"],[Str.ofString "value",Str.ofString "place"],[Str.ofString "heap",Str.ofString "word",Str.ofString "gen",Str.ofString "marks",Str.ofString "work",Str.ofString "thing"],[Str.ofString "heap",Str.ofString "value",Str.ofString "gen",Str.ofString "marks",Str.ofString "work",Str.ofString "word"],[Str.ofString "heap",Str.ofString "work",Str.ofString "gen",Str.ofString "marks",Str.ofString "thing",Str.ofString "value"],[Str.ofString "heap",Str.ofString "gen",Str.ofString "out",Str.ofString "thing",Str.ofString "slot"],[Str.ofString "heap",Str.ofString "lists",Str.ofString "gen",Str.ofString "marks",Str.ofString "work",Str.ofString "values",Str.ofString "value",Str.ofString "thing",Str.ofString "slot"],[Str.ofString "heap",Str.ofString "marks",Str.ofString "addrs",Str.ofString "gen",Str.ofString "work",Str.ofString "addr"],[Str.ofString "heap",Str.ofString "thing",Str.ofString "value",Str.ofString "addr",Str.ofString "other"],[Str.ofString "heap",Str.ofString "out",Str.ofString "thing",Str.ofString "slot"],[Str.ofString "heap",Str.ofString "thing",Str.ofString "slot"],[Str.ofString "self"],[Str.ofString "h",Str.ofString "out",Str.ofString "row"],[Str.ofString "h",Str.ofString "sort",Str.ofString "marks",Str.ofString "heap",Str.ofString "gen",Str.ofString "count",Str.ofString "row"],[Str.ofString "h",Str.ofString "moves",Str.ofString "row"],[Str.ofString "heap",Str.ofString "marks",Str.ofString "gen",Str.ofString "kept",Str.ofString "picked",Str.ofString "addr"],[Str.ofString "heap",Str.ofString "gen",Str.ofString "end",Str.ofString "thing"],[Str.ofString "heap",Str.ofString "marks",Str.ofString "gen",Str.ofString "moves",Str.ofString "goal",Str.ofString "thing"],[Str.ofString "self",Str.ofString "heap",Str.ofString "moves"],[Str.ofString "self",Str.ofString "word"],[Str.ofString "heap",Str.ofString "moves",Str.ofString "word",Str.ofString "thing"],[Str.ofString "thing",Str.ofString "moves",Str.ofString "gen"],[Str.ofString "values",Str.ofString "moves",Str.ofString "words",Str.ofString "out",Str.ofString "value"],[Str.ofString "lists",Str.ofString "moves",Str.ofString "words",Str.ofString "out",Str.ofString "values"],[Str.ofString "lists",Str.ofString "fresh",Str.ofString "place",Str.ofString "values",Str.ofString "i"],[Str.ofString "addrs",Str.ofString "moves",Str.ofString "out",Str.ofString "addr"],[Str.ofString "heap",Str.ofString "thing",Str.ofString "moves",Str.ofString "gen",Str.ofString "goal"],[Str.ofString "heap",Str.ofString "moves",Str.ofString "gen",Str.ofString "living",Str.ofString "thing"],[Str.ofString "heap",Str.ofString "lists",Str.ofString "moves",Str.ofString "gen",Str.ofString "words",Str.ofString "every",Str.ofString "values",Str.ofString "thing"],[Str.ofString "heap",Str.ofString "lists",Str.ofString "handles",Str.ofString "out",Str.ofString "values"],[Str.ofString "heap",Str.ofString "lists",Str.ofString "handles",Str.ofString "gen",Str.ofString "marks",Str.ofString "picked"],[Str.ofString "heap",Str.ofString "lists",Str.ofString "handles",Str.ofString "gen",Str.ofString "before",Str.ofString "marks",Str.ofString "moves"],[Str.ofString "m",Str.ofString "out",Str.ofString "f",Str.ofString "kind",Str.ofString "chase",Str.ofString "values"],[Str.ofString "m",Str.ofString "gen"],[Str.ofString "self",Str.ofString "heap",Str.ofString "frames",Str.ofString "statics"],[Str.ofString "self",Str.ofString "number",Str.ofString "mref",Str.ofString "body",Str.ofString "args",Str.ofString "sort"],[Str.ofString "self",Str.ofString "m"],[Str.ofString "self",Str.ofString "store",Str.ofString "heap"],[Str.ofString "self",Str.ofString "kind",Str.ofString "count"],[Str.ofString "self",Str.ofString "text"],[Str.ofString "self",Str.ofString "text"],[Str.ofString "m",Str.ofString "kind",Str.ofString "count",Str.ofString "sort",Str.ofString "out",Str.ofString "k"],[Str.ofString "m",Str.ofString "kind",Str.ofString "count"],[Str.ofString "m",Str.ofString "text",Str.ofString "thing"],[Str.ofString "m",Str.ofString "text",Str.ofString "place",Str.ofString "value"],[Str.ofString "self",Str.ofString "number",Str.ofString "value",Str.ofString "throw_number",Str.ofString "at"],[Str.ofString "self"],[Str.ofString "w"],[Str.ofString "w",Str.ofString "spec",Str.ofString "form",Str.ofString "one",Str.ofString "n",Str.ofString "addr",Str.ofString "pair"],[Str.ofString "w",Str.ofString "kind",Str.ofString "specs"],[Str.ofString "w",Str.ofString "z",Str.ofString "one",Str.ofString "i",Str.ofString "specs",Str.ofString "kind"],[Str.ofString "w",Str.ofString "tag",Str.ofString "real",Str.ofString "specs",Str.ofString "spec"],[Str.ofString "w",Str.ofString "tag",Str.ofString "real",Str.ofString "z",Str.ofString "forms",Str.ofString "specs",Str.ofString "i",Str.ofString "form",Str.ofString "one"],[Str.ofString "w",Str.ofString "tag"],[Str.ofString "w",Str.ofString "tag",Str.ofString "real",Str.ofString "specs"],[Str.ofString "w",Str.ofString "z",Str.ofString "tag",Str.ofString "spec",Str.ofString "chase"],[Str.ofString "w",Str.ofString "z",Str.ofString "m",Str.ofString "tag",Str.ofString "mref",Str.ofString "below",Str.ofString "y",Str.ofString "lower",Str.ofString "f"],[Str.ofString "w",Str.ofString "z",Str.ofString "m",Str.ofString "kind"],[Str.ofString "w",Str.ofString "z"],[Str.ofString "w",Str.ofString "n",Str.ofString "tag",Str.ofString "real",Str.ofString "specs",Str.ofString "value"],[Str.ofString "w",Str.ofString "given",Str.ofString "wanted",Str.ofString "real"],[Str.ofString "w",Str.ofString "todo",Str.ofString "seen",Str.ofString "one",Str.ofString "spec"],[Str.ofString "w",Str.ofString "heap",Str.ofString "thing",Str.ofString "kind",Str.ofString "specs",Str.ofString "tag",Str.ofString "real"],[Str.ofString "w",Str.ofString "gen",Str.ofString "seen",Str.ofString "many",Str.ofString "ages",Str.ofString "one",Str.ofString "age"],[Str.ofString "w",Str.ofString "z",Str.ofString "m",Str.ofString "act",Str.ofString "y",Str.ofString "place",Str.ofString "f",Str.ofString "tag",Str.ofString "real",Str.ofString "specs"],[Str.ofString "script",Str.ofString "store",Str.ofString "m",Str.ofString "w",Str.ofString "z",Str.ofString "i",Str.ofString "n"]]
end Mine
set_option genInjectivity true
namespace Mine
open PySem
noncomputable def kindIn (sc:Scope) (x:Str) (k:NameKind):Bool:=sc.names.lookup x==some k
noncomputable def plainName (x:Str):Bool:=x != ("__debug__":Str)&&x != ("__classdict__":Str)
noncomputable def readsAs (names:List Str) (sc:Scope) (i:Nat) (x:Str):Bool:=names[i]?==some x&&plainName x&&(kindIn sc x .local||kindIn sc x .cell||kindIn sc x .free)
noncomputable def globalAs (sc:Scope) (x:Str):Bool:=plainName x&&kindIn sc x .globalImplicit
noncomputable def bindsAs (names:List Str) (sc:Scope) (i:Nat) (x:Str):Bool:=names[i]?==some x&&kindIn sc x .local
noncomputable def opOf:Bop→Operator
 | .add=>.Add
 | .sub=>.Sub
 | .mul=>.Mult
 | .fdiv=>.FloorDiv
 | .mod=>.Mod
 | .shr=>.RShift
noncomputable def copOf:Cop→CmpOp
 | .eq=>.Eq
 | .ne=>.NotEq
 | .lt=>.Lt
 | .le=>.LtE
 | .gt=>.Gt
 | .ge=>.GtE
 | .isNone=>.Is
 | .isNot=>.IsNot
 | .mem=>.In
 | .nmem=>.NotIn
noncomputable def boOf (b:Bool):BoolOp:=match b with|true=>.And|false=>.Or
noncomputable def fnName:BF→Str
 | .len=>Str.ofString "len"
 | .sorted=>Str.ofString "sorted"
 | .tuple=>Str.ofString "tuple"
 | .str=>Str.ofString "str"
noncomputable def isIs:Cop→Bool
 | .isNone=>true
 | .isNot=>true
 | _=>false
noncomputable def constOf:V→Option Const
 | .none=>some .none
 | .bool b=>some (.bool b)
 | .int i=>some (.int i)
 | .str s=>some (.str s)
 | _=>none
noncomputable def cE (q:Expr) (nm:Str→Bool:=fun _=>false) (cn:Const→Bool:=fun _=>false) (bi:Expr→Operator→Expr→Bool:=fun _ _ _=>false) (un:UnaryOp→Expr→Bool:=fun _ _=>false) (bo:BoolOp→List Expr→Bool:=fun _ _=>false)
  (cp:Expr→List CmpOp→List Expr→Bool:=fun _ _ _=>false) (tu:List Expr→Bool:=fun _=>false) (li:List Expr→Bool:=fun _=>false) (di:List (Option Expr)→List Expr→Bool:=fun _ _=>false) (su:Expr→Expr→Bool:=fun _ _=>false)
  (at_:Expr→Str→Pos→Bool:=fun _ _ _=>false) (ca:Expr→List Expr→List Keyword→Pos→Bool:=fun _ _ _ _=>false) (lc:Expr→List Comprehension→Scope→Bool:=fun _ _ _=>false) (sl:Option Expr→Option Expr→Option Expr→Bool:=fun _ _ _=>false) (st:Bool:=false) (se:Bool:=false):Bool:=match q with
 | .Name x _=>nm x
 | .Constant c _ _=>cn c
 | .BinOp l o r _=>bi l o r
 | .UnaryOp o x _=>un o x
 | .BoolOp o l _=>bo o l
 | .Compare l o r _=>cp l o r
 | .Tuple l _ _=>tu l
 | .List l _=>li l
 | .Dict k v _=>di k v
 | .Subscript v i _=>su v i
 | .Attribute v x p=>at_ v x p
 | .Call f l k p=>ca f l k p
 | .ListComp e g s _=>lc e g s
 | .Slice a b c _=>sl a b c
 | .Starred _ _=>st
 | .Set _ _ _=>se
 | _=>false
noncomputable def notSet (q:Expr):Bool:=!cE q (se:=true)
noncomputable def isSlice (q:Expr):Bool:=cE q (sl:=fun _ _ _=>true)
noncomputable def notStar (q:Expr):Bool:=!cE q (st:=true)
noncomputable def isLC (q:Expr):Bool:=cE q (lc:=fun _ _ _=>true)
noncomputable def plainBase (q:Expr):Bool:=cE q (nm:=fun _=>true) (at_:=fun _ _ _=>true) (su:=fun _ _=>true)
noncomputable def litIs (q:E) (v:V→Bool):Bool:=match q with
 | .lit w=>v w
 | _=>false
noncomputable def isNoneV:V→Bool
 | .none=>true
 | _=>false
noncomputable def isTrueV:V→Bool
 | .bool b=>b
 | _=>false
section
variable {α β:Type}
noncomputable def none' (l:List α):Bool:=match l with|[]=>true|_::_=>false
noncomputable def cons' (l:List α) (k:α→List α→Bool):Bool:=match l with|[]=>false|a::r=>k a r
noncomputable def one' (l:List α) (k:α→Bool):Bool:=cons' l fun a r=>none' r&&k a
noncomputable def some' (l:Option α) (k:α→Bool):Bool:=match l with|some a=>k a|none=>false
noncomputable def nil' (l:Option α):Bool:=match l with|some _=>false|none=>true
end
noncomputable def isStr (q:Expr) (k:Str→Bool):Bool:=cE q (cn:=fun c=>match c with|.str x=>k x|_=>false)
noncomputable def isInt (q:Expr) (k:Int→Bool):Bool:=cE q (cn:=fun c=>match c with|.int x=>k x|_=>false)
noncomputable def compScope (sc isc:Scope) (caps targets:List Str):Bool :=
 isc.kind==.function&&isc.names.all (fun p=>(p.2 != .local||isc.names.lookup p.1==some .local)&&p.2 != .cell&&(p.2 != .free||(isc.names.lookup p.1==some .free&&caps.contains p.1))) &&
 caps.all (fun x=>kindIn sc x .cell&&kindIn isc x .free)&&targets.all (fun x=>kindIn isc x .local)&&decide (caps++targets).Nodup
noncomputable def gen' (g:Comprehension) (k:Str→Expr→List Expr→Bool):Bool:=cE g.target (nm:=fun t=>decide (g.is_async=0)&&notSet g.iter&&k t g.iter g.ifs)
noncomputable def meth' (q:Expr) (k:Expr→Str→List Expr→Bool):Bool:=cE q (ca:=fun f es ks p=>none' ks&&cE f (at_:=fun v x ap=>plainBase v&&ap.endLine==p.line&&k v x es))
noncomputable def call' (q:Expr) (k:Str→List Expr→Bool):Bool:=cE q (ca:=fun f es ks _=>none' ks&&cE f (nm:=fun x=>k x es))
noncomputable def keyOk (p:Option Expr×Str):Bool:=some' p.1 fun q=>isStr q fun x=>x==p.2
noncomputable abbrev MF:=List Str→Scope→Expr→Bool
mutual
noncomputable def matchE:E→List Str→Scope→Expr→Bool
 | .lit v,_,_,q=>cE q (cn:=fun c=>constOf v==some c)
 | .glob x,_,sc,q=>cE q (nm:=fun id=>tab.gnames[x]?==some id&&globalAs sc id)
 | .loc i,ns,sc,q=>cE q (nm:=fun id=>readsAs ns sc i id)
 | .bin op a b,ns,sc,q=>cE q (bi:=fun l o r=>o==opOf op&&matchE a ns sc l&&matchE b ns sc r)
 | .neg a,ns,sc,q=>cE q (un:=fun o x=>o==.USub&&matchE a ns sc x)
 | .not a,ns,sc,q=>cE q (un:=fun o x=>o==.Not&&matchE a ns sc x)
 | .bo b l,ns,sc,q=>cE q (bo:=fun o es=>o==boOf b&&matchEs l ns sc es&&decide (1≤l.length))
 | .cmp op a b,ns,sc,q=>cE q (cp:=fun l os rs=>one' os fun o=>one' rs fun r=>o==copOf op&&(!isIs op||litIs b isNoneV)&&notSet r&&matchE a ns sc l&&matchE b ns sc r)
 | .tup l,ns,sc,q=>cE q (tu:=fun es=>matchEs l ns sc es&&decide (l.length≤100))
 | .list l,ns,sc,q=>cE q (li:=fun es=>matchEs l ns sc es&&decide (l.length≤100))
 | .dict _,_,_,q=>cE q (di:=fun k v=>none' k&&none' v)
 | .wd l,ns,sc,q=>cE q (di:=fun ks vs=>matchEs l ns sc vs&&decide (ks.length=l.length∧1≤l.length∧l.length≤15)&&(ks.zip tab.wks).all keyOk)
 | .idx a b,ns,sc,q=>cE q (su:=fun v i=>!isSlice i&&matchE a ns sc v&&matchE b ns sc i)
 | .wk a k,ns,sc,q=>cE q (su:=fun v i=>isStr i fun x=>tab.wks[k]?==some x&&matchE a ns sc v)
 | .cut a k,ns,sc,q=>cE q (su:=fun v i=>cE i (sl:=fun lo up s=>nil' lo&&nil' s&&some' up fun u=>isInt u fun n=>decide (n=k)&&cE v (nm:=fun _=>true)&&matchE a ns sc v))
 | .attr a c i,ns,sc,q=>cE q (at_:=fun v x _=>plainBase v&&matchE a ns sc v&&(tab.attrs.getD c [])[i]?==some x)
 | .call f l,ns,sc,q=>call' q fun x es=>tab.gfns.contains (x,f)&&globalAs sc x&&matchEs l ns sc es
 | .new c f l,ns,sc,q=>call' q fun x es=>tab.cnames[c]?==some x&&globalAs sc x&&tab.inits.contains (c,f)&&matchEs l ns sc es
 | .new0 c,_,sc,q=>call' q fun x es=>none' es&&tab.cnames[c]?==some x&&globalAs sc x&&tab.new0s.contains c
 | .meth o c f l,ns,sc,q=>meth' q fun v x es=>matchE o ns sc v&&tab.meths.contains (c,x,f)&&matchEs l ns sc es&&decide (es.length<14)
 | .append o a,ns,sc,q=>meth' q fun v x es=>x==("append":Str)&&one' es fun e=>notStar e&&matchE o ns sc v&&matchE a ns sc e
 | .pop o,ns,sc,q=>meth' q fun v x es=>x==("pop":Str)&&none' es&&matchE o ns sc v
 | .popAt o a,ns,sc,q=>meth' q fun v x es=>x==("pop":Str)&&one' es fun e=>notStar e&&matchE o ns sc v&&matchE a ns sc e
 | .get1 o a,ns,sc,q=>meth' q fun v x es=>x==("get":Str)&&one' es fun e=>notStar e&&matchE o ns sc v&&matchE a ns sc e
 | .get2 o a d,ns,sc,q=>meth' q fun v x es=>x==("get":Str)&&cons' es fun e r=>one' r fun e2=>notStar e&&notStar e2&&matchE o ns sc v&&matchE a ns sc e&&matchE d ns sc e2
 | .bf f a,ns,sc,q=>call' q fun x es=>x==fnName f&&globalAs sc x&&one' es fun e=>notStar e&&matchE a ns sc e
 | .comp elt cap it c,ns,sc,q=>cE q (lc:=fun e gs isc=>one' gs fun g=>gen' g fun t i fs=>some' (cap.mapM (ns[·]?)) fun caps=>compScope sc isc caps [t]&&matchE it ns sc i&&matchE elt (caps++[t]) isc e&&((none' fs&&litIs c isTrueV)||one' fs fun h=>matchE c (caps++[t]) isc h))
 | .comp2 elt it it2,ns,sc,q=>cE q (lc:=fun e gs isc=>cons' gs fun g r=>one' r fun g2=>gen' g fun t i fs=>gen' g2 fun t2 i2 fs2=>none' fs&&none' fs2&&compScope sc isc [] [t,t2]&&matchE it ns sc i&&matchE it2 [t,t2] isc i2&&matchE elt [t,t2] isc e)
 | .inTid a,ns,sc,q=>cE q (cp:=fun l os rs=>one' os fun o=>one' rs fun r=>o==.In&&cE r (nm:=fun x=>x==("TID_PRIM":Str)&&globalAs sc x)&&matchE a ns sc l)
noncomputable def matchEs:List E→List Str→Scope→List Expr→Bool
 | [],_,_,l=>none' l
 | a::r,ns,sc,l=>cons' l fun e s=>notStar e&&matchE a ns sc e&&matchEs r ns sc s
end
end Mine
set_option genInjectivity false
namespace Mine
open PySem
structure K where
 n:Nat
 deriving DecidableEq
noncomputable abbrev TH:=List (K×O)
noncomputable abbrev Rho:=List (Option V)
noncomputable abbrev PE':=V→TH→Prop
noncomputable abbrev PEs':=List V→TH→Prop
noncomputable abbrev PS':=Option V×Rho→TH→Prop
noncomputable abbrev CallP:=Nat→List V→TH→PE'→Prop
structure Chg (X:Nat→K→Prop) (T T':TH):Prop where
 get:∀ {i:Nat} {k:K} {o:O},T[i]?=some (k,o)→¬ X i k→T'[i]?=some (k,o)
 kind:∀ {i:Nat} {k:K} {o:O},T[i]?=some (k,o)→∃ o',T'[i]?=some (k,o')
noncomputable abbrev noX:Nat→K→Prop:=fun _ _=>False
noncomputable abbrev oneX (o:Nat):Nat→K→Prop:=fun j _=>j=o
noncomputable def limit:Nat:=100000
noncomputable def deep:Nat:=8
noncomputable def dataS (f:List V→Option (List PyData)) (T:TH) (v:V):Option PyData:=match v with
 | .none=>some .none
 | .bool b=>some (.bool b)
 | .int i=>some (.int i)
 | .str s=>if PyData.strOk s then some (.str s) else none
 | .tup l=>(f l).map .tuple
 | .obj i=>match T[i]? with
  | some (_,.list l)=>(f l).map .list
  | _=>none
 | .frz _=>none
noncomputable def dataV:Nat→TH→V→Option PyData
 | 0,T,v=>dataS (fun _=>none) T v
 | n+1,T,v=>dataS (fun l=>l.mapM (dataV n T)) T v
noncomputable def intOp:Bop→Int→Int→Option Int
 | .add,a,b=>some (a+b)
 | .sub,a,b=>some (a-b)
 | .mul,a,b=>if a.natAbs<2 ^ 60 then some (a*b) else none
 | .fdiv,a,b=>if b > 0∧b<1000000000 then some (Int.fdiv a b) else none
 | .mod,a,b=>if b > 0 then some (Int.fmod a b) else none
 | .shr,a,b=>if 0≤b∧b<64 then some (Int.fdiv a (2 ^ b.toNat)) else none
noncomputable def cmpI:Cop→Int→Int→Option Bool
 | .eq,a,b=>some (a==b)
 | .ne,a,b=>some (!(a==b))
 | .lt,a,b=>some (decide (a<b))
 | .le,a,b=>some (decide (a≤b))
 | .gt,a,b=>some (decide (a > b))
 | .ge,a,b=>some (decide (a≥b))
 | _,_,_=>none
noncomputable def eqOp (op:Cop) (b:Bool):Option Bool:=match op with
 | .eq=>some b
 | .ne=>some (!b)
 | _=>none
noncomputable def memOp (op:Cop) (b:Bool):Option Bool:=match op with
 | .mem=>some b
 | .nmem=>some (!b)
 | _=>none
noncomputable def isOp (op:Cop) (b:Bool):Option Bool:=match op with
 | .isNone=>some b
 | .isNot=>some (!b)
 | _=>none
section
variable {K':Type} [DecidableEq K']
noncomputable def dget (l:List (K'×V)) (k:K'):Option V:=match l with
 | []=>none
 | p::r=>if p.1=k then some p.2 else dget r k
noncomputable def dput (l:List (K'×V)) (k:K') (v:V):List (K'×V):=match l with
 | []=>[(k,v)]
 | p::r=>if p.1=k then (p.1,v)::r else p::dput r k v
end
noncomputable def at? (l:List V) (i:Int):Option V :=
 if 0≤i then (if i<1000000 then l[i.toNat]? else none) else if -(l.length:Int)≤i∧-1000000≤i then l[(i+l.length).toNat]? else none
noncomputable def putAt:List V→Nat→V→List V
 | [],_,v=>[v]
 | a::r,i,v=>match i with
  | 0=>v::r
  | i+1=>a::putAt r i v
noncomputable def setR:Rho→Nat→V→Option Rho
 | [],_,_=>none
 | a::r,i,v=>match i with
  | 0=>some (some v::r)
  | i+1=>(setR r i v).map (a::·)
noncomputable def setLocs (ρ:Rho):List Nat→List V→Option Rho
 | [],[]=>some ρ
 | i::is,v::vs=>(setR ρ i v).bind fun ρ=>setLocs ρ is vs
 | _,_=>none
noncomputable def setTarget (ρ:Rho) (t:List Nat) (v:V):Option Rho:=match t with
 | []=>none
 | i::r=>match r with
  | []=>setR ρ i v
  | _::_=>match v with
   | .tup vs=>setLocs ρ t vs
   | _=>none
inductive BinY (Q:V→Prop):Bop→V→V→Prop
 | int {op a b c}:intOp op a b=some c→Q (.int c)→BinY Q op (.int a) (.int b)
 | str {a b}:a.length+b.length≤1000→Q (.str (a++b))→BinY Q .add (.str a) (.str b)
inductive CmpY (T:TH) (Q:Bool→Prop):Cop→V→V→Prop
 | int {op a b c}:cmpI op a b=some c→Q c→CmpY T Q op (.int a) (.int b)
 | str {op} {a b:Str} {c}:eqOp op (a==b)=some c→Q c→CmpY T Q op (.str a) (.str b)
 | isn {op x y c}:isOp op (isNoneV x)=some c→Q c→CmpY T Q op x y
 | data {op x y d e c}:dataV deep T x=some d→dataV deep T y=some e→eqOp op (PyData.eqv d e)=some c→Q c→CmpY T Q op x y
 | memD {op o k l i c}:T[o]?=some (k,.di l)→memOp op (dget l i).isSome=some c→Q c→CmpY T Q op (.int i) (.obj o)
 | memL {op o x d ys c}:dataV deep T x=some d→dataV deep T (.obj o)=some (.list ys)→memOp op (ys.any fun y=>PyData.eqv y d)=some c→Q c→CmpY T Q op x (.obj o)
inductive IdxY (T:TH) (Q:V→Prop):V→V→Prop
 | tup {l i v}:at? l i=some v→Q v→IdxY T Q (.tup l) (.int i)
 | list {o k l i v}:T[o]?=some (k,.list l)→at? l i=some v→Q v→IdxY T Q (.obj o) (.int i)
 | di {o k l i v}:T[o]?=some (k,.di l)→dget l i=some v→Q v→IdxY T Q (.obj o) (.int i)
inductive LenY (T:TH) (Q:Nat→Prop):V→Prop
 | tup {l}:l.length≤limit→Q l.length→LenY T Q (.tup l)
 | list {o k l}:T[o]?=some (k,.list l)→l.length≤limit→Q l.length→LenY T Q (.obj o)
 | di {o k l}:T[o]?=some (k,.di l)→l.length≤limit→Q l.length→LenY T Q (.obj o)
inductive ObjY (Q:Nat→Prop):V→Prop
 | mk {o}:Q o→ObjY Q (.obj o)
inductive ListY (T:TH) (o:Nat) (Q:K→List V→Prop):Prop
 | mk {k l}:T[o]?=some (k,.list l)→Q k l→ListY T o Q
inductive DiY (T:TH) (o:Nat) (Q:K→List (Int×V)→Prop):Prop
 | mk {k l}:T[o]?=some (k,.di l)→Q k l→DiY T o Q
inductive WdY (T:TH) (o:Nat) (Q:List V→Prop):Prop
 | mk {k l}:T[o]?=some (k,.wd l)→Q l→WdY T o Q
inductive InstY (T:TH) (o c:Nat) (Q:List V→Prop):Prop
 | mk {k l}:T[o]?=some (k,.inst c l)→Q l→InstY T o c Q
inductive GetY {α:Type} (x:Option α) (Q:α→Prop):Prop
 | mk {v}:x=some v→Q v→GetY x Q
inductive AnyK (P:K→Prop):Prop
 | mk (k:K):P k→AnyK P
structure NewY (T:TH) (k:K) (o:O) (Q:Nat→TH→Prop):Prop where
 intro ::
 ex:∀ i T',T[i]?=none→T'[i]?=some (k,o)→Chg noX T T'→Q i T'
structure PutY (T:TH) (o:Nat) (k:K) (x:O) (Q:TH→Prop):Prop where
 intro ::
 ex:∀ T',T'[o]?=some (k,x)→Chg (oneX o) T T'→Q T'
noncomputable def putO (ob:O) (i:Nat) (v:V):O:=match ob with
 | .inst c fs=>.inst c (putAt fs i v)
 | .wd fs=>.wd (putAt fs i v)
 | o=>o
inductive AttrPut (T:TH) (o c i:Nat) (v:V) (Q:TH→Prop):Prop
 | mk {k fs}:T[o]?=some (k,.inst c fs)→Nat.ble i fs.length=true→PutY T o k (putO (.inst c fs) i v) Q→AttrPut T o c i v Q
inductive WdPut (T:TH) (o i:Nat) (v:V) (Q:TH→Prop):Prop
 | mk {k fs}:T[o]?=some (k,.wd fs)→Nat.ble i fs.length=true→PutY T o k (putO (.wd fs) i v) Q→WdPut T o i v Q
inductive IdxPut (T:TH) (o:Nat) (v:V) (Q:TH→Prop):V→Prop
 | list {k l} {i:Int}:T[o]?=some (k,.list l)→0≤i∧i<l.length∧i<1000000→PutY T o k (.list (l.set i.toNat v)) Q→IdxPut T o v Q (.int i)
 | di {k l} {i:Int}:T[o]?=some (k,.di l)→l.length<limit→PutY T o k (.di (dput l i v)) Q→IdxPut T o v Q (.int i)
 | ds {k l i}:T[o]?=some (k,.ds l)→l.length<limit→PutY T o k (.ds (dput l i v)) Q→IdxPut T o v Q (.str i)
 | dt {k l} (i:NKey):T[o]?=some (k,.dt l)→l.length<limit→PutY T o k (.dt (dput l i v)) Q→IdxPut T o v Q i.toV
inductive DictY (T:TH) (o:Nat) (P:Prop):Prop
 | di {k l}:T[o]?=some (k,.di l)→P→DictY T o P
 | ds {k l}:T[o]?=some (k,.ds l)→P→DictY T o P
 | dt {k l}:T[o]?=some (k,.dt l)→P→DictY T o P
inductive Get2Y (T:TH) (o:Nat) (d:V) (Q:V→Prop):V→Prop
 | di {k l i}:T[o]?=some (k,.di l)→Q ((dget l i).getD d)→Get2Y T o d Q (.int i)
 | ds {k l i}:T[o]?=some (k,.ds l)→Q ((dget l i).getD d)→Get2Y T o d Q (.str i)
 | dt {k l} (i:NKey):T[o]?=some (k,.dt l)→Q ((dget l i).getD d)→Get2Y T o d Q i.toV
noncomputable def BoolM (x:V) (Q:Bool→Prop):Prop:=match x with|.bool b=>Q b|_=>False
noncomputable def IntM (x:V) (Q:Int→Prop):Prop:=match x with|.int b=>Q b|_=>False
noncomputable def ObjM (x:V) (Q:Nat→Prop):Prop:=match x with|.obj b=>Q b|_=>False
noncomputable def TupM (x:V) (Q:List V→Prop):Prop:=match x with|.tup b=>Q b|_=>False
noncomputable def GetM {α:Type} (x:Option α) (Q:α→Prop):Prop:=match x with|some v=>Q v|none=>False
structure CallY (C:CallP) (f:Nat) (vs:List V) (T:TH) (Q:PE'):Prop where
 mk ::
 c:C f vs T Q
section
variable (Q:PE') (T:TH)
noncomputable def kB (v:Bool):Prop:=Q (.bool v) T
noncomputable def kN (n:Nat):Prop:=Q (.int n) T
noncomputable def kV (v:V):Prop:=Q v T
noncomputable def kNew (i:Nat) (T:TH):Prop:=Q (.obj i) T
noncomputable def kBM (P:Bool→TH→Prop):PE':=fun x T=>BoolM x fun b=>P b T
noncomputable def kBin2 (op:Bop) (x:V):PE':=fun y T=>BinY (kV Q T) op x y
noncomputable def kBin (op:Bop) (b:TH→PE'→Prop):PE':=fun x T=>b T (kBin2 Q op x)
noncomputable def kNeg:PE':=fun x T=>IntM x fun i=>Q (.int (-i)) T
noncomputable def kNot1 (b:Bool) (T:TH):Prop:=Q (.bool (!b)) T
noncomputable def kBo1 (b:Bool) (r:TH→PE'→Prop) (c:Bool) (T:TH):Prop:=(c=b→r T Q)∧(c=!b→Q (.bool (!b)) T)
noncomputable def kBoL (c:Bool) (T:TH):Prop:=Q (.bool c) T
noncomputable def kCmp2 (op:Cop) (x:V):PE':=fun y T=>CmpY T (kB Q T) op x y
noncomputable def kCmp (op:Cop) (b:TH→PE'→Prop):PE':=fun x T=>b T (kCmp2 Q op x)
noncomputable def kTup:PEs':=fun vs T=>Q (.tup vs) T
noncomputable def kList (k:K):PEs':=fun vs T=>NewY T k (.list vs) (kNew Q)
noncomputable abbrev dictO:DK→O
 | .di=>.di []
 | .ds=>.ds []
 | .dt=>.dt []
noncomputable def kWd2 (k:K) (i:Nat):PEs':=fun vs T=>T[i]?=some (k,.wd [])∧PutY T i k (.wd vs) (Q (.obj i))
noncomputable def kWd (k:K) (b:TH→PEs'→Prop) (i:Nat) (T:TH):Prop:=b T (kWd2 Q k i)
noncomputable def kIdx2 (x:V):PE':=fun y T=>IdxY T (kV Q T) x y
noncomputable def kIdx (b:TH→PE'→Prop):PE':=fun x T=>b T (kIdx2 Q x)
noncomputable def kFld (i:Nat) (fs:List V):Prop:=GetM fs[i]? fun v=>Q v T
noncomputable def kWk (i:Nat):PE':=fun x T=>ObjM x fun o=>WdY T o (kFld Q T i)
noncomputable def kAttr (c i:Nat):PE':=fun x T=>ObjM x fun o=>InstY T o c (kFld Q T i)
noncomputable def kCut (n:Nat):PE':=fun x T=>match x with
 | .frz l=>l.length≤limit∧AnyK fun k=>NewY T k (.list ((l.take n).map .int)) (kNew Q)
 | _=>False
noncomputable def kCall (C:CallP) (f:Nat):PEs':=fun vs T=>CallY C f vs T Q
noncomputable def kNewR (i:Nat):PE':=fun r T=>r=.none∧Q (.obj i) T
noncomputable def kNewI (C:CallP) (f:Nat) (vs:List V):Nat→TH→Prop:=fun i T=>CallY C f (.obj i::vs) T (kNewR Q i)
noncomputable def kInit (C:CallP) (k:K) (c f:Nat):PEs':=fun vs T=>NewY T k (.inst c []) (kNewI Q C f vs)
noncomputable def kMeth2 (C:CallP) (f o:Nat):PEs':=fun vs T=>CallY C f (.obj o::vs) T Q
noncomputable def kMethB (C:CallP) (f o:Nat) (as:TH→PEs'→Prop) (_:List V):Prop:=as T (kMeth2 Q C f o)
noncomputable def kMeth (C:CallP) (c f:Nat) (as:TH→PEs'→Prop):PE':=fun x T=>ObjM x fun o=>InstY T o c (kMethB Q T C f o as)
noncomputable def kAppB (o:Nat) (v:V) (k:K) (l:List V):Prop:=l.length<limit∧PutY T o k (.list (l++[v])) (Q .none)
noncomputable def kApp2 (o:Nat):PE':=fun v T=>ListY T o (kAppB Q T o v)
noncomputable def kAppA (b:TH→PE'→Prop) (o:Nat) (_:K) (_:List V):Prop:=b T (kApp2 Q o)
noncomputable def kApp (b:TH→PE'→Prop):PE':=fun y T=>ObjM y fun o=>ListY T o (kAppA Q T b o)
noncomputable def kPopB (o:Nat) (k:K) (l:List V):Prop:=l.length≤limit∧GetY l[l.length-1]? fun v=>PutY T o k (.list (l.eraseIdx (l.length-1))) (Q v)
noncomputable def kPop:PE':=fun y T=>ObjM y fun o=>ListY T o (kPopB Q T o)
noncomputable def kPopC (o:Nat) (i:Int) (k:K) (l:List V):Prop:=(0≤i∧i<1000000∧l.length≤limit)∧GetY l[i.toNat]? fun v=>PutY T o k (.list (l.eraseIdx i.toNat)) (Q v)
noncomputable def kPopA2 (o:Nat):PE':=fun j T=>IntM j fun i=>ListY T o (kPopC Q T o i)
noncomputable def kPopD (b:TH→PE'→Prop) (o:Nat) (_:K) (_:List V):Prop:=b T (kPopA2 Q o)
noncomputable def kPopA (b:TH→PE'→Prop):PE':=fun y T=>ObjM y fun o=>ListY T o (kPopD Q T b o)
noncomputable def kGetB (i:Int) (_:K) (l:List (Int×V)):Prop:=Q ((dget l i).getD .none) T
noncomputable def kGet2 (o:Nat):PE':=fun j T=>IntM j fun i=>DiY T o (kGetB Q T i)
noncomputable def kGetA (b:TH→PE'→Prop) (o:Nat) (_:K) (_:List (Int×V)):Prop:=b T (kGet2 Q o)
noncomputable def kGet (b:TH→PE'→Prop):PE':=fun y T=>ObjM y fun o=>DiY T o (kGetA Q T b o)
noncomputable def kGt3 (o:Nat) (j:V):PE':=fun d T=>Get2Y T o d (kV Q T) j
noncomputable def kGt2 (c:TH→PE'→Prop) (o:Nat):PE':=fun j T=>c T (kGt3 Q o j)
noncomputable def kGt (b c:TH→PE'→Prop):PE':=fun y T=>ObjM y fun o=>DictY T o (b T (kGt2 Q c o))
noncomputable def kSortB (_:K) (l:List (Int×V)):Prop:=(l.length≤limit∧(l.length<64∨(l.map (·.1)).Pairwise (·≤·)))∧AnyK fun k=>NewY T k (.list (((l.map (·.1)).mergeSort (fun a b=>decide (a≤b))).map .int)) (kNew Q)
noncomputable def kTupB (_:K) (l:List V):Prop:=l.length≤limit∧Q (.tup l) T
noncomputable def kStr (i:Int):Prop:=(0≤i∧i<1000000000)∧Q (.str (Str.ofString (toString i))) T
noncomputable def kBf:BF→PE'
 | .len=>fun x T=>LenY T (kN Q T) x
 | .sorted=>fun x T=>ObjM x fun o=>DiY T o (kSortB Q T)
 | .tuple=>fun x T=>ObjM x fun o=>ListY T o (kTupB Q T)
 | .str=>fun x T=>IntM x (kStr Q T)
noncomputable def kTid:PE':=fun y T=>IntM y fun i=>Q (.bool ([20,9,10,11,12,13,14,15,16,17,18,19,1,4].contains i)) T
end
noncomputable def kCons2 (Q:PEs') (v:V):PEs':=fun vs T=>Q (v::vs) T
noncomputable def kCons (r:TH→PEs'→Prop) (Q:PEs'):PE':=fun v T=>r T (kCons2 Q v)
noncomputable abbrev XE:=Rho→TH→PE'→Prop
noncomputable def PureX (e:TH→PE'→Prop) (T:TH) (v:V):Prop:=e T fun x T'=>x=v∧T'=T
noncomputable def PureB (e:TH→PE'→Prop) (T:TH) (v:Bool):Prop:=e T (kBM fun x T'=>x=v∧T'=T)
noncomputable abbrev capOf (ρ:Rho) (cap:List Nat) (x:V):Rho:=cap.map (fun i=>(ρ[i]?).join)++[some x]
noncomputable def ItemX (e c:TH→PE'→Prop) (T:TH):Option V→Prop
 | some v=>PureX e T v∧PureB c T true
 | none=>PureB c T false
structure CapsY (b:Bool) (P:Prop):Prop where
 b:b=true
 p:P
inductive CompY (e c:XE) (ρ:Rho) (cap:List Nat) (T:TH) (Q:PE'):V→Prop
 | mk {o k l} (kk:K) (f:V→Option V):T[o]?=some (k,.list l)→l.length≤limit →
   (∀ x T',x∈l→Chg noX T T'→ItemX (e (capOf ρ cap x)) (c (capOf ρ cap x)) T' (f x))→NewY T kk (.list (l.filterMap f)) (kNew Q)→CompY e c ρ cap T Q (.obj o)
inductive Comp2I (e it2:XE) (T:TH) (x:V) (T':TH) (ys:List V):Prop
 | mk {o2 k2 l2} (g:V→V):T[o2]?=some (k2,.list l2)→ys=l2.map g→PureX (it2 [some x,none]) T' (.obj o2)→(∀ y T'',y∈l2→Chg noX T T''→PureX (e [some x,some y]) T'' (g y))→Comp2I e it2 T x T' ys
inductive Comp2Y (e it2:XE) (T:TH) (Q:PE'):V→Prop
 | mk {o k l} (kk:K) (f:V→List V):T[o]?=some (k,.list l)→(l.flatMap f).length≤limit →
   (∀ x T',x∈l→Chg noX T T'→Comp2I e it2 T x T' (f x))→NewY T kk (.list (l.flatMap f)) (kNew Q)→Comp2Y e it2 T Q (.obj o)
mutual
noncomputable def EV (C:CallP):Rho→E→TH→PE'→Prop
 | ρ,.lit v,T,Q=>Q v T
 | ρ,.glob x,T,Q=>GetM gtab[x]? fun v=>Q v T
 | ρ,.loc i,T,Q=>GetM (ρ[i]?).join fun v=>Q v T
 | ρ,.bin op a b,T,Q=>EV C ρ a T (kBin Q op (fun T Q=>EV C ρ b T Q))
 | ρ,.neg a,T,Q=>EV C ρ a T (kNeg Q)
 | ρ,.not a,T,Q=>EV C ρ a T (kBM (kNot1 Q))
 | ρ,.bo b l,T,Q=>EB C ρ b l T Q
 | ρ,.cmp op a b,T,Q=>EV C ρ a T (kCmp Q op (fun T Q=>EV C ρ b T Q))
 | ρ,.tup l,T,Q=>EVs C ρ l T (kTup Q)
 | ρ,.list l,T,Q=>AnyK fun k=>EVs C ρ l T (kList Q k)
 | ρ,.dict d,T,Q=>AnyK fun k=>NewY T k (dictO d) (kNew Q)
 | ρ,.wd l,T,Q=>AnyK fun k=>NewY T k (.wd []) (kWd Q k (fun T Q=>EVs C ρ l T Q))
 | ρ,.idx a b,T,Q=>EV C ρ a T (kIdx Q (fun T Q=>EV C ρ b T Q))
 | ρ,.wk a i,T,Q=>EV C ρ a T (kWk Q i)
 | ρ,.cut a i,T,Q=>EV C ρ a T (kCut Q i)
 | ρ,.attr a c i,T,Q=>EV C ρ a T (kAttr Q c i)
 | ρ,.call f args,T,Q=>EVs C ρ args T (kCall Q C f)
 | ρ,.new c f args,T,Q=>AnyK fun k=>EVs C ρ args T (kInit Q C k c f)
 | ρ,.new0 c,T,Q=>AnyK fun k=>NewY T k (.inst c []) (kNew Q)
 | ρ,.meth a c f args,T,Q=>EV C ρ a T (kMeth Q C c f (fun T Q=>EVs C ρ args T Q))
 | ρ,.append a b,T,Q=>EV C ρ a T (kApp Q (fun T Q=>EV C ρ b T Q))
 | ρ,.pop a,T,Q=>EV C ρ a T (kPop Q)
 | ρ,.popAt a b,T,Q=>EV C ρ a T (kPopA Q (fun T Q=>EV C ρ b T Q))
 | ρ,.get1 a b,T,Q=>EV C ρ a T (kGet Q (fun T Q=>EV C ρ b T Q))
 | ρ,.get2 a b c,T,Q=>EV C ρ a T (kGt Q (fun T Q=>EV C ρ b T Q) (fun T Q=>EV C ρ c T Q))
 | ρ,.bf f a,T,Q=>EV C ρ a T (kBf Q f)
 | ρ,.comp e cap it c,T,Q=>CapsY (cap.all fun i=>(ρ[i]?).join.isSome) (EV C ρ it T (fun x T=>CompY (fun ρ T Q=>EV C ρ e T Q) (fun ρ T Q=>EV C ρ c T Q) ρ cap T Q x))
 | ρ,.comp2 e it it2,T,Q=>EV C ρ it T (fun x T=>Comp2Y (fun ρ T Q=>EV C ρ e T Q) (fun ρ T Q=>EV C ρ it2 T Q) T Q x)
 | ρ,.inTid a,T,Q=>EV C ρ a T (kTid Q)
noncomputable def EVs (C:CallP):Rho→List E→TH→PEs'→Prop
 | ρ,[],T,Q=>Q [] T
 | ρ,e::r,T,Q=>EV C ρ e T (kCons (fun T Q=>EVs C ρ r T Q) Q)
noncomputable def EB (C:CallP):Rho→Bool→List E→TH→PE'→Prop
 | ρ,b,[],T,Q=>False
 | ρ,b,e::r,T,Q=>EV C ρ e T (kBM (match r with|[]=>kBoL Q|_::_=>kBo1 Q b (fun T Q=>EB C ρ b r T Q)))
end
noncomputable def TurnQ (J:Rho→TH→Prop) (Q:PS'):PS':=fun r T=>match r with
 | (none,ρ)=>J ρ T
 | (some v,ρ)=>Q (some v,ρ) T
section
variable (J:Rho→TH→Prop) (ρ:Rho)
noncomputable def kRho (x:Option Rho) (T:TH):Prop:=GetM x fun ρ=>J ρ T
noncomputable def kPutA (c i:Nat) (v:V):PE':=fun x T=>ObjM x fun o=>AttrPut T o c i v (J ρ)
noncomputable def kPutW (i:Nat) (v:V):PE':=fun x T=>ObjM x fun o=>WdPut T o i v (J ρ)
noncomputable def kPutI3 (v:V) (o:Nat):PE':=fun k T=>IdxPut T o v (J ρ) k
noncomputable def kPutI2 (b:TH→PE'→Prop) (v:V):PE':=fun x T=>ObjM x fun o=>b T (kPutI3 J ρ v o)
noncomputable def TV (C:CallP) (t:T) (v:V) (T:TH):Prop:=match t with
 | .loc i=>kRho J (setR ρ i v) T
 | .locs l=>TupM v fun vs=>kRho J (setLocs ρ l vs) T
 | .attr a c i=>EV C ρ a T (kPutA J ρ c i v)
 | .wk a i=>EV C ρ a T (kPutW J ρ i v)
 | .idx a b=>EV C ρ a T (kPutI2 J ρ (fun T Q=>EV C ρ b T Q) v)
noncomputable def kAug (i:Nat) (op:Bop) (x:V):PE':=fun y T=>IntM x fun x=>IntM y fun y=>GetM (intOp op x y) fun v=>kRho J (setR ρ i (.int v)) T
noncomputable def kAugA2 (c i o:Nat) (op:Bop) (x:V):PE':=fun y T=>IntM x fun x=>IntM y fun y=>GetM (intOp op x y) fun v=>AttrPut T o c i (.int v) (J ρ)
noncomputable def kAugA1 (e:TH→PE'→Prop) (c i o:Nat) (op:Bop) (T:TH) (fs:List V):Prop:=GetM fs[i]? fun x=>e T (kAugA2 J ρ c i o op x)
noncomputable def kAugA (e:TH→PE'→Prop) (c i:Nat) (op:Bop):PE':=fun x T=>ObjM x fun o=>InstY T o c (kAugA1 J ρ e c i o op T)
noncomputable def kSkip:PE':=fun _ T=>J ρ T
end
noncomputable def kRet (Q:PS') (ρ:Rho):PE':=fun v T=>Q (some v,ρ) T
noncomputable abbrev XS:=Rho→TH→PS'→Prop
noncomputable def kIte (x y:TH→PS'→Prop) (Q:PS') (d:Bool) (T:TH):Prop:=(d=true→x T Q)∧(d=false→y T Q)
noncomputable def augOk:Bop→Bool
 | .add=>true
 | .sub=>true
 | _=>false
noncomputable def seqQ (f:XS) (Q:PS'):PS':=fun r T=>match r with
 | (none,ρ)=>f ρ T Q
 | (some v,ρ)=>Q (some v,ρ) T
structure HandS (P:Prop):Prop where
 intro ::
 ex:P
inductive LiveY (T:TH) (o m j:Nat) (P:V→Prop) (D:Prop):Prop
 | item {k l x}:T[o]?=some (k,.list l)→l[j]?=some x→j<m→P x→LiveY T o m j P D
 | done {k l}:T[o]?=some (k,.list l)→l.length≤j→D→LiveY T o m j P D
inductive ForY (t:List Nat) (W:XS) (Q:PS') (ρ:Rho) (T:TH):V→Prop
 | empty:Q (none,ρ) T→ForY t W Q ρ T (.tup [])
 | list {o} (m:Nat) (I:Nat→Rho→TH→Prop):I 0 ρ T→(∀ j ρ T,I j ρ T→LiveY T o m j (fun x=>GetM (setTarget ρ t x) fun ρ=>W ρ T (TurnQ (I (j+1)) Q)) (Q (none,ρ) T))→ForY t W Q ρ T (.obj o)
inductive RangeY (t:Nat) (W:XS) (Q:PS') (ρ:Rho) (T:TH):V→Prop
 | mk {n:Nat} (I:Nat→Rho→TH→Prop):n≤limit→I 0 ρ T→(∀ j ρ T,I j ρ T→j<n→GetM (setR ρ t (.int j)) fun ρ=>W ρ T (TurnQ (I (j+1)) Q))→(∀ ρ T,I n ρ T→Q (none,ρ) T)→RangeY t W Q ρ T (.int n)
noncomputable def kWhile (J:Rho→TH→Prop) (W:TH→PS'→Prop) (Q:PS') (ρ:Rho) (d:Bool) (T:TH):Prop:=(d=true→W T (TurnQ J Q))∧(d=false→Q (none,ρ) T)
inductive WhileY (c:XE) (W:XS) (Q:PS') (ρ:Rho) (T:TH):Prop
 | mk {m:Nat} (I:Nat→Rho→TH→Prop):I m ρ T→(∀ m ρ T,I m ρ T→∃ J:Rho→TH→Prop,(∀ ρ T,J ρ T→∃ m',m'<m∧I m' ρ T)∧c ρ T (kBM (kWhile J (W ρ) Q ρ)))→WhileY c W Q ρ T
mutual
noncomputable def SS (C:CallP):Rho→S→TH→PS'→Prop
 | ρ,.assign t e,T,Q=>EV C ρ e T (TV (fun ρ T=>Q (none,ρ) T) ρ C t)
 | ρ,.augl i op e,T,Q=>augOk op=true∧GetM (ρ[i]?).join fun x=>EV C ρ e T (kAug (fun ρ T=>Q (none,ρ) T) ρ i op x)
 | ρ,.auga a c i op e,T,Q=>augOk op=true∧EV C ρ a T (kAugA (fun ρ T=>Q (none,ρ) T) ρ (fun T Q=>EV C ρ e T Q) c i op)
 | ρ,.expr e,T,Q=>EV C ρ e T (kSkip (fun ρ T=>Q (none,ρ) T) ρ)
 | ρ,.ret e,T,Q=>EV C ρ e T (kRet Q ρ)
 | ρ,.pass,T,Q=>Q (none,ρ) T
 | ρ,.ite c x y,T,Q=>EV C ρ c T (kBM (kIte (fun T Q=>SV C ρ x T Q) (fun T Q=>SV C ρ y T Q) Q))
 | ρ,.while c b,T,Q=>HandS (WhileY (fun ρ T Q=>EV C ρ c T Q) (fun ρ T Q=>SV C ρ b T Q) Q ρ T)
 | ρ,.forI t e b,T,Q=>EV C ρ e T (fun x T=>ForY t (fun ρ T Q=>SV C ρ b T Q) Q ρ T x)
 | ρ,.forR t e b,T,Q=>EV C ρ e T (fun x T=>RangeY t (fun ρ T Q=>SV C ρ b T Q) Q ρ T x)
 | ρ,.stuck,T,Q=>False
noncomputable def SV (C:CallP):Rho→List S→TH→PS'→Prop
 | ρ,[],T,Q=>Q (none,ρ) T
 | ρ,s::r,T,Q=>SS C ρ s T (seqQ (fun ρ T Q=>SV C ρ r T Q) Q)
end
noncomputable def CN:Nat→CallP
 | 0,_,_,_,_=>False
 | n+1,f,vs,T,Q=>GetM fns[f]? fun fd=>vs.length=fd.np∧SV (CN n) (vs.map some++List.replicate (fd.nl-fd.np) none) fd.body T fun r T=>Q (r.1.getD .none) T
end Mine
set_option genInjectivity true
namespace Mine
open PySem
local macro_rules
 | `(tactic| obtain ⟨$[$ps],*⟩ := $e) => do
  let n := ps.size
  if n < 2 then Lean.Macro.throwUnsupported
  let mut xs : Array Lean.Ident := #[]
  let mut post : Lean.TSyntax `tactic ← `(tactic| skip)
  let mut c := 0
  for p in ps do
   let h := Lean.mkIdent (Lean.Name.mkSimple s!"q_{c}")
   match p with
   | `(Lean.Parser.Tactic.rcasesPatLo| $x:ident) =>
    if x.getId == `rfl then
     xs := xs.push h
     post ← `(tactic| ($post:tactic; subst $h))
    else xs := xs.push x
   | `(Lean.Parser.Tactic.rcasesPatLo| _) => xs := xs.push h
   | `(Lean.Parser.Tactic.rcasesPatLo| $q:rcasesPatMed) =>
     xs := xs.push h
     post ← `(tactic| ($post:tactic; obtain $q:rcasesPatMed := $h))
   | _ => Lean.Macro.throwUnsupported
   c := c + 1
  let mut r ← `(tactic| fail)
  for i in [0:n] do
   let f := Lean.mkIdent (Lean.Name.mkSimple s!"ea{i}_{n-1-i}")
   r ← `(tactic| first | refine no_implicit_lambda% ($f $e ?_) | $r:tactic)
  let cl ← if e.raw.isIdent then `(tactic| try clear $(⟨e.raw⟩):ident) else `(tactic| skip)
  `(tactic| ($r:tactic; $cl:tactic; intro $(xs)*; $post:tactic))
local macro_rules
 | `(tactic| rintro $ps*) => do
  let mut r : Lean.TSyntax `tactic ← `(tactic| skip)
  let mut c := 0
  for p in ps do
   let h := Lean.mkIdent (Lean.Name.mkSimple s!"w_{c}")
   match p with
   | `(rintroPat| $q:rcasesPat) =>
    match q with
    | `(rcasesPat| $x:ident) => if x.getId == `rfl then r ← `(tactic| ($r:tactic; intro $h:ident; subst $h)) else r ← `(tactic| ($r:tactic; intro $x:ident))
    | `(rcasesPat| _) => r ← `(tactic| ($r:tactic; intro _))
    | _ => r ← `(tactic| ($r:tactic; intro $h:ident; obtain $q:rcasesPat := $h))
   | _ => Lean.Macro.throwUnsupported
   c := c + 1
  return r
local macro_rules | `(tactic| omega) => `(tactic| first
 | exact leL (by assumption) (by rfl)
 | exact ltL (by assumption) (by rfl)
 | omega (config := {}))
open Sem (wp)
section
variable (h:Heap)
noncomputable def NItem:Option Int→Value→Prop
 | some i,v=>∃ t,v=.int i t
 | none,v=>∃ a o n,v=.ref a∧h.get? a=some o∧o.cls=.type "tuple"∧o.data=.seq #[] n
inductive NItems:List (Option Int)→List Value→Prop
 | nil:NItems [] []
 | cons {k v ks vs}:NItem h k v→NItems ks vs→NItems (k::ks) (v::vs)
noncomputable def IsNKey (k:NKey) (a:Addr):Prop:=∃ o items n,h.get? a=some o∧o.cls=.type "tuple"∧o.data=.seq items n∧NItems h k.items items.toList
end
theorem NItem.inj {h:Heap} {x y:Option Int} {v:Value} (hx:NItem h x v) (hy:NItem h y v):x=y:=by
 cases x<;>cases y<;>simp only [NItem] at hx hy
 ·rfl
 ·obtain⟨a,o,n,rfl,_⟩:=hx;obtain⟨t,e⟩:=hy;cases e
 ·obtain⟨t,rfl⟩:=hx;obtain⟨a,o,n,e,_⟩:=hy;cases e
 ·obtain⟨t,rfl⟩:=hx;obtain⟨t',e⟩:=hy;cases e;rfl
theorem NItems.inj {h:Heap} {x y:List (Option Int)} {vs:List Value} (hx:NItems h x vs) (hy:NItems h y vs):x=y:=by
 induction hx generalizing y with
 | nil=>cases hy;rfl
 | cons h1 _ ih =>
  cases hy with
  | cons h2 t2=>rw [h1.inj h2,ih t2]
theorem NKey.items_inj {x y:NKey} (e:x.items=y.items):x=y:=by
 obtain⟨a,b,c⟩:=x
 obtain⟨a',b',c'⟩:=y
 cases c<;>cases c'<;>simp [NKey.items] at e<;>simp [e]
theorem IsNKey.inj {h:Heap} {a:Addr} {x y:NKey} (hx:IsNKey h x a) (hy:IsNKey h y a):x=y:=by
 obtain⟨o,items,n,ho,_,hd,hi⟩:=hx
 obtain⟨o',items',n',ho',_,hd',hi'⟩:=hy
 rw [ho] at ho';cases ho'
 rw [hd] at hd';cases hd'
 exact NKey.items_inj (hi.inj hi')
theorem NItem.mono {h h':Heap} {k:Option Int} {v:Value} (m:∀ b o,h.get? b=some o→(∃ vs n,o.data=.seq vs n)→h'.get? b=some o) (x:NItem h k v):NItem h' k v:=by
 cases k with
 | some i=>exact x
 | none=>obtain⟨a,o,n,e,ho,hc,hd⟩:=x;exact⟨a,o,n,e,m _ _ ho ⟨_,_,hd⟩,hc,hd⟩
theorem NItems.mono {h h':Heap} {ks:List (Option Int)} {vs:List Value} (m:∀ b o,h.get? b=some o→(∃ vs n,o.data=.seq vs n)→h'.get? b=some o) (x:NItems h ks vs):NItems h' ks vs:=by
 induction x with
 | nil=>exact .nil
 | cons a _ ih=>exact .cons (a.mono m) ih
theorem IsNKey.keeps {h h':Heap} {k:NKey} {a d:Addr} {o:Obj} {es ep} (x:IsNKey h k a) (ho:h.get? d=some o) (hd:o.data=.dict es ep) (hs:Heap.SameBut d h h'):IsNKey h' k a:=by
 have m:∀ b o',h.get? b=some o'→(∃ vs n,o'.data=.seq vs n)→h'.get? b=some o':=fun b o' e ⟨vs,n,q⟩=>by
  refine (hs.2 b fun (r:b=d)=>?_).trans e
  rw [r,ho] at e;cases e;rw [hd] at q;cases q
 obtain⟨o',items,n,ho',hc,hd',hi⟩:=x
 exact⟨o',items,n,m _ _ ho' ⟨_,_,hd'⟩,hc,hd',hi.mono m⟩
theorem IsNKey.typeIs {s:Shared} {k:NKey} {a:Addr} (x:IsNKey s.heap k a):s.TypeIs (.ref a) "tuple":=let ⟨o,_,_,ho,hc,_⟩:=x;⟨o,ho,hc⟩
section
variable {prog:Program} {w:World} {A:Around} {E:Value→Shared→Prop} {s:Shared}
noncomputable def nItemHash (prog:Program) (w:World):Option Int→Int
 | some i=>(intKind prog w).hash i
 | none=>tupleKeyHash (intKind prog w) []
noncomputable def nHash (prog:Program) (w:World) (k:NKey):Int:=reduceHash (Builtin.Tuple.tupleHashOf (k.items.map (nItemHash prog w)))
theorem nItem_hash {k:Option Int} {v:Value} {Q:Int→Shared→Prop} (hu:A.units<cLine) (hk:NItem s.heap k v) (h:Q (nItemHash prog w k) {s with toks:=s.toks+1}):wpAny (model prog w) A (pyHash v) Q E s:=by
 cases k with
 | some i =>
  obtain⟨t,rfl⟩:=hk
  exact (intKind prog w).pyHash (intKind_is _ _ _ _) h
 | none =>
  obtain⟨a,o,n,rfl,ho,hc,hd⟩:=hk
  exact wpAny_pyHash_tuple (knd:=intKind prog w) (ks:=[]) hu ⟨o,_,n,ho,hc,hd,.nil⟩ h
theorem nHash_snd {k:NKey} {a:Addr} {Q:Int→Shared→Prop} (hu:A.units+10<cLine) (hk:IsNKey s.heap k a) (h:Q (nHash prog w k) {s with toks:=s.toks+(k.items.length+1)}) :
  wpAny (model prog w) A (pyHash (.ref a)) Q E s:=by
 have hT:=hk.typeIs
 obtain⟨o,items,n,ho,_,hd,hi⟩:=hk
 unfold pyHash
 first|unfold pyHashByItsType|skip
 first|refine wpAny_bind (wpAny_cRoomFor_or (.inr (by omega)) ?_)|skip
 refine wpAny_bind (wpAny_specialOf hT F.slot_tuple_hash.lookup ?_)
 show wpAny _ _ (if (some (Value.builtin "tuple.__hash__")==some Value.none)=true then _ else _) Q E s
 rw [if_neg (by rw [beq_builtin_none];exact Bool.false_ne_true)]
 refine wpAny_bind (wpAny_specialOf hT F.slot_tuple_hash.lookup ?_)
 show wpAny _ _ (callSpecialIfBoundUnlessNone? (.ref a) "__hash__" _ >>= _) Q E s
 refine wpAny_bind (wpAny_callSpecialIfBoundUnlessNone?_slot hT F.slot_tuple_hash (wpAny_call_entry F.slot_tuple_hash hT F.entry_tuple_hash ?_ (F.args_tuple_hash_1 _)))
 show wpAny _ _ (Builtin.Tuple.tupleItemsOf (.ref a) >>= _) _ _ s
 refine wpAny_bind (wpAny_tupleItemsOf ho hd ?_)
 refine wpAny_bind ?_
 rw [←Array.forIn_toList]
 refine wpAny_forIn_list _
  (fun rest (b:Array Int) s'=>∃ done left,k.items=done++left∧NItems s.heap left rest∧b.toList=done.map (nItemHash prog w)∧s'={s with toks:=s.toks+done.length})
  _ ?_ ?_ _ _ ⟨[],k.items,rfl,hi,rfl,rfl⟩
 ·rintro x rest b s' ⟨done,left,hk,hl,hb,rfl⟩
  cases hl with
  | @cons k0 _ ks' _ h1 hl' =>
   refine wpAny_bind (nItem_hash (by show A.units+1<cLine;omega) (s:={s with toks:=s.toks+done.length}) h1 ?_)
   first
    | exact wpAny_pure ⟨done++[k0],ks',by simp [hk],hl',by simp [hb],by simp [Nat.add_assoc]⟩
    | exact wpAny_bind (wpAny_pure (wpAny_pure ⟨done++[k0],ks',by simp [hk],hl',by simp [hb],by simp [Nat.add_assoc]⟩))
 ·rintro b s' ⟨done,left,hk,hl,hb,rfl⟩
  cases hl
  rw [List.append_nil] at hk
  show wpAny _ _ (retInt (Builtin.Tuple.tupleHashOf b.toList)) _ _ _
  rw [hb]
  refine wpAny_ret_mkInt ?_
  show wpAny _ _ (if (decide (-(2:Int) ^ 63≤Builtin.Tuple.tupleHashOf (done.map (nItemHash prog w)))&&decide (Builtin.Tuple.tupleHashOf (done.map (nItemHash prog w))<2 ^ 63))=true then _ else _) Q E _
  unfold nHash reduceHash at h
  rw [hk] at h
  by_cases hr:(decide (-(2:Int) ^ 63≤Builtin.Tuple.tupleHashOf (done.map (nItemHash prog w)))&&decide (Builtin.Tuple.tupleHashOf (done.map (nItemHash prog w))<2 ^ 63))=true
  ·rw [if_pos hr]
   rw [if_pos hr] at h
   exact wpAny_pure (by simpa [Nat.add_assoc] using h)
  ·rw [if_neg hr]
   rw [if_neg hr] at h
   exact wpAny_bind (wpAny_rule (wpAny_pure (by simpa [Nat.add_assoc] using h)))
noncomputable def Al (x y:List (Option Int)):Prop:=∀ (j:Nat) u v,x[j]?=some u→y[j]?=some v→u.isSome=v.isSome
theorem Al.head {u v:Option Int} {x y} (h:Al (u::x) (v::y)):u.isSome=v.isSome:=h 0 u v rfl rfl
theorem Al.tail {u v:Option Int} {x y} (h:Al (u::x) (v::y)):Al x y:=fun j p q hp hq=>h (j+1) p q (by simpa using hp) (by simpa using hq)
theorem NKey.al (x y:NKey):Al x.items y.items:=by
 obtain⟨a,b,c⟩:=x
 obtain⟨a',b',c'⟩:=y
 intro j u v hu hv
 cases c<;>cases c'<;>rcases j with _|_|_|j<;>simp [NKey.items] at hu hv<;>subst hu<;>subst hv<;>rfl
theorem nItem_eq {x y:Option Int} {u v:Value} {Q:Bool→Shared→Prop} (hu:A.units<cLine) (hx:NItem s.heap x u) (hy:NItem s.heap y v) (ha:x.isSome=y.isSome) (h:Q (decide (x=y)) s):wpAny (model prog w) A (eqBool u v) Q E s:=by
 cases x<;>cases y<;>simp at ha
 ·obtain⟨a,o,n,rfl,ho,hc,hd⟩:=hx
  obtain⟨a',o',n',rfl,ho',hc',hd'⟩:=hy
  exact wpAny_eqBool_tuple (knd:=intKind prog w) (x:=[]) (y:=[]) hu ⟨o,_,n,ho,hc,hd,.nil⟩ ⟨o',_,n',ho',hc',hd',.nil⟩ h
 ·rename_i i j
  obtain⟨t,rfl⟩:=hx
  obtain⟨t',rfl⟩:=hy
  refine (intKind prog w).eqBool (a:=i) (b:=j) (intKind_is _ _ _ _) (intKind_is _ _ _ _) ?_
  have:decide (some i=some j)=decide (i=j):=by simp
  rw [this] at h;exact h
inductive EqZ (h:Heap) (r n:Bool):List (Value×Value)→Prop
 | nil:n=r→EqZ h r n []
 | same {k u v l}:NItem h k u→NItem h k v→EqZ h r n l→EqZ h r n ((u,v)::l)
 | diff {k j u v l}:NItem h k u→NItem h j v→k.isSome=j.isSome→k≠j→r=false→EqZ h r n ((u,v)::l)
theorem EqZ.on {h:Heap} {r n:Bool} {u v:Value} {l:List (Value×Value)} {P:Prop} (E:EqZ h r n ((u,v)::l)) (c:∀ k,NItem h k u→NItem h k v→EqZ h r n l→P) (d:∀ k j,NItem h k u→NItem h j v→k.isSome=j.isSome→k≠j→r=false→P):P:=by
 cases E with
 | same a b e=>exact c _ a b e
 | diff a b e f g=>exact d _ _ a b e f g
theorem EqZ.end_ {h:Heap} {r n:Bool} (E:EqZ h r n []):n=r:=by cases E;assumption
theorem eqz {h:Heap} {x:List (Option Int)} {xs:List Value} (hx:NItems h x xs):∀ {y:List (Option Int)} {ys:List Value},NItems h y ys→Al x y→EqZ h (decide (x=y)) (xs.length==ys.length) (List.zip xs ys):=by
 induction hx with
 | nil =>
  intro y ys hy _
  cases hy with
  | nil=>exact .nil rfl
  | cons _ _=>exact .nil rfl
 | @cons k u x xs h1 hx ih =>
  intro y ys hy al
  cases hy with
  | nil=>exact .nil rfl
  | @cons k2 v y ys h2 hy =>
   by_cases e:k=k2
   ·subst e
    have q:=ih hy al.tail
    rw [show decide (k::x=k::y)=decide (x=y) by simp,show ((u::xs).length==(v::ys).length)=(xs.length==ys.length) by simp]
    exact .same h1 h2 q
   ·exact .diff h1 h2 al.head e (by simp [e])
theorem n_eq_tree {x y:NKey} {a b:Addr} {P:Fin→Shared→Prop} (hu:A.units<cLine) (hx:IsNKey s.heap x a) (hy:IsNKey s.heap y b) (h:P (.done (.ret (.bool (decide (x=y))))) s) :
  wpAny (model prog w) A (Builtin.«tuple.__eq__» ⟨[.ref a,.ref b],[]⟩) P E s:=by
 have hTb:=hy.typeIs
 obtain⟨oa,xs,na,hoa,_,hda,hia⟩:=hx
 obtain⟨ob,ys,nb,hob,_,hdb,hib⟩:=hy
 have z:=eqz hia hib (NKey.al x y)
 rw [show decide (x.items=y.items)=decide (x=y) from decide_eq_decide.mpr ⟨NKey.items_inj,fun e=>e▸rfl⟩] at z
 show wpAny _ _ (isInstance (.ref b) (.type "tuple") >>= _) _ _ s
 refine wpAny_bind (wpAny_isInstance hTb isSubtype_tuple_tuple ?_)
 simp only [Bool.not_true,Bool.false_eq_true,if_false]
 refine wpAny_bind (wpAny_tupleItemsOf hoa hda ?_)
 refine wpAny_bind (wpAny_tupleItemsOf hob hdb ?_)
 refine wpAny_bind ?_
 refine wpAny_forIn_list _ (fun rest r s'=>r.1=none∧s'=s∧EqZ s.heap (decide (x=y)) (xs.toList.length==ys.toList.length) rest) _ ?_ ?_ _ _ ⟨rfl,rfl,z⟩
 ·rintro⟨u,v⟩ rest r s' ⟨hr,rfl,z⟩
  refine z.on (fun k h1 h2 z=>?_) fun k j h1 h2 ha hne hf=>?_
  ·refine wpAny_bind (nItem_eq hu h1 h2 rfl ?_)
   rw [decide_eq_true rfl]
   exact wpAny_pure ⟨rfl,rfl,z⟩
  ·refine wpAny_bind (nItem_eq hu h1 h2 ha ?_)
   rw [decide_eq_false hne]
   rw [hf] at h
   exact wpAny_bind (wpAny_pure (wpAny_pure (wpAny_pure h)))
 ·rintro⟨r1,r2⟩ s' ⟨hr,rfl,z⟩
  have hr:r1=none:=hr
  subst hr
  refine wpAny_pure ?_
  show P (.done (.ret (.bool (xs.size==ys.size)))) s'
  have e:(xs.size==ys.size)=decide (x=y):=z.end_
  rw [e];exact h
theorem nEq_snd {x y:NKey} {a b:Addr} {Q:Bool→Shared→Prop} (hu:A.units+10<cLine) (hx:IsNKey s.heap x a) (hy:IsNKey s.heap y b) (h:Q (decide (x=y)) s) :
  wpAny (model prog w) A (eqBool (.ref a) (.ref b)) Q E s:=by
 unfold eqBool
 try with_reducible refine wpAny_holding ?_
 show wpAny _ _ (if (Value.ref a==Value.ref b)=true then _ else _) Q E s
 by_cases hab:(Value.ref a==Value.ref b)=true
 ·rw [if_pos hab]
  have e:a=b:=by have:=eq_of_beq hab;injection this
  subst e
  obtain rfl:=hx.inj hy
  exact wpAny_bind (wpAny_rule (wpAny_pure (by simpa using h)))
 ·rw [if_neg hab]
  exact wpAny_bind (wpAny_richCompare_same_room (op:=.Eq) hx.typeIs hy.typeIs F.slot_tuple_eq
   (wpAny_call_entry F.slot_tuple_eq hx.typeIs F.entry_tuple_eq (n_eq_tree (by show A.units+1<cLine;lia) hx hy ⟨_,rfl,(fun e=>nomatch e),wpAny_truthy_bool h⟩) (F.args_tuple_eq_2 _ _)) (by lia))
theorem nItem_quiet {k:Option Int} {v:Value} {Q:Bool→Shared→Prop} (hk:NItem s.heap k v) (m:Nat) (h:Q true s):wpAny (model prog w) A (eqIsQuiet (m+1) v) Q E s:=by
 cases k with
 | some i=>obtain⟨t,rfl⟩:=hk;rw [eqIsQuiet_byValue _ rfl];exact wpAny_pure h
 | none =>
  obtain⟨a,o,n,rfl,ho,hc,hd⟩:=hk
  have hT:s.TypeIs (.ref a) "tuple":=⟨o,ho,hc⟩
  unfold eqIsQuiet
  refine wpAny_bind (wpAny_specialOf hT F.slot_tuple_eq.lookup ?_)
  show wpAny _ _ (isInstance (.ref a) (.type "tuple") >>= _) _ _ s
  refine wpAny_bind (wpAny_isInstance hT isSubtype_tuple_tuple ?_)
  simp only [Bool.not_true,Bool.false_eq_true,if_false]
  refine wpAny_bind (wpAny_seqItems ho hd ?_)
  exact wpAny_bind (wpAny_pure (wpAny_pure h))
theorem n_quiet {k:NKey} {a:Addr} {Q:Bool→Shared→Prop} (hk:IsNKey s.heap k a) (h:Q true s):wpAny (model prog w) A (eqIsQuiet 8 (.ref a)) Q E s:=by
 have hT:=hk.typeIs
 obtain⟨o,items,n,ho,_,hd,hi⟩:=hk
 unfold eqIsQuiet
 refine wpAny_bind (wpAny_specialOf hT F.slot_tuple_eq.lookup ?_)
 show wpAny _ _ (isInstance (.ref a) (.type "tuple") >>= _) _ _ s
 refine wpAny_bind (wpAny_isInstance hT isSubtype_tuple_tuple ?_)
 simp only [Bool.not_true,Bool.false_eq_true,if_false]
 refine wpAny_bind (wpAny_seqItems ho hd ?_)
 refine wpAny_bind ?_
 show wpAny _ _ (forIn items _ _) _ _ s
 rw [←Array.forIn_toList]
 refine wpAny_forIn_list _ (fun rest r s'=>r.1=none∧s'=s∧∃ ks,NItems s.heap ks rest) _ ?_ ?_ _ _ ⟨rfl,rfl,_,hi⟩
 ·rintro v rest r s' ⟨hr,rfl,ks,hall⟩
  cases hall with
  | cons h1 h2 =>
   refine wpAny_bind (nItem_quiet h1 _ ?_)
   simp only [Bool.not_true,Bool.false_eq_true,if_false]
   exact wpAny_pure ⟨rfl,rfl,_,h2⟩
 ·rintro⟨r1,r2⟩ s' ⟨hr,rfl,_⟩
  simp only at hr
  subst hr
  exact wpAny_pure h
end
noncomputable def nestKind (prog:Program) (w:World):HeapKind prog w NKey where
 is:=IsNKey
 hash:=nHash prog w
 draws:=fun k=>k.items.length+1
 room:=fun A=>A.units+10<cLine
 inj:=fun hx hy=>hx.inj hy
 keeps:=fun x ho hd hs=>x.keeps ho hd hs
 pyHash:=fun hu hk h=>nHash_snd hu hk h
 eqBool:=fun hu hx hy h=>nEq_snd hu hx hy h
 quiet:=fun hk h=>n_quiet hk h
end Mine
set_option genInjectivity true
namespace Mine
open PySem PySem.W PySem.Calls PyProof.Rows
section
variable {prog:Program} {w:World} {A:Around} {E:Value→Shared→Prop} {s:Shared} {a₀:Array Keyed}
theorem minRun_le:∀ (f n r:Nat),r≤1→minRun' f n r≤n+r
 | 0,n,r,_=>Nat.le_refl _
 | f+1,n,r,h=>by
  rw [minRun'_succ]
  split
  ·exact Nat.le_refl _
  ·have hm:max r (n%2)≤1:=by lia
   have:=minRun_le f (n/2) (max r (n%2)) hm
   lia
theorem wpS_countRun_asc {st:SortSt} {nrem:Nat} {Q:Option Nat→SortSt→Prop} (h0:IntKeys a₀) (hn:nrem≤a₀.size) (h1:1≤nrem) (hB:SBase a₀ st) (hs:SortedTo (arrOf st) nrem) (h:Q (some nrem) st) :
  wpS (model prog w) A E s (countRun' 0 nrem) Q st:=by
 rw [countRun0_eq]
 refine wpS_bind (wpS_ascLoop h0 hn (Nat.le_refl 1) h1 hB (fun i j hij hj=>by cases (show i=j by lia);exact Int.le_refl _) fun n hn1 hn2 hsn hor=>?_)
 dsimp only
 have hnn:n=nrem:=by
  rcases hor with h|h
  ·exact h
  ·refine Classical.byContradiction fun hne=>?_
   have:=hs (n-1) n (by lia) (by lia)
   lia
 rw [if_pos (by simpa using hnn),hnn]
 exact wpS_pure h
theorem wpS_sortRuns_asc {st:SortSt} {Q:Unit→SortSt→Prop} (h0:IntKeys a₀) (hB:SBase a₀ st) (h2:2≤a₀.size) (hasc:SortedTo (arrOf st) a₀.size)
  (h:∀ st',(arrOf st').Perm a₀→failedOf st'=none→SortedTo (arrOf st') a₀.size→Q () st'):wpS (model prog w) A E s sortRuns' Q st:=by
 rw [sortRuns'_eq]
 refine wpS_bind (wpS_get ?_)
 dsimp only
 have hmr:minRun' a₀.size a₀.size 0≤a₀.size:=by have:=minRun_le a₀.size a₀.size 0 (by lia);lia
 simp only [hB.size]
 generalize minRun' a₀.size a₀.size 0=mr at hmr
 refine wpS_bind (wpS_mono (wpS_forRange
  (I:=fun x c st'=>(x=0∧c=(none,0)∧SBase a₀ st'∧SortedTo (arrOf st') a₀.size)∨(1≤x∧c=(none,a₀.size)∧SDone a₀ st'))
  (Q:=fun c st'=>c=(none,a₀.size)∧SDone a₀ st') ?step ?fin (.inl ⟨rfl,rfl,hB,hasc⟩)) ?post)
 case fin =>
  rintro c st' (⟨hx,_,_⟩|⟨_,hc,hD⟩)
  ·lia
  ·exact⟨hc,hD⟩
 case step =>
  rintro x c st' _ hx (⟨rfl,rfl,hB',hs'⟩|⟨hx1,rfl,hD⟩)
  ·dsimp only
   rw [if_neg (by lia)]
   simp only [Nat.sub_zero,Nat.zero_add]
   refine wpS_bind (wpS_countRun_asc h0 (Nat.le_refl _) (by lia) hB' hs' ?_)
   dsimp only
   rw [if_neg (by lia)]
   refine wpS_bind (wpS_get ?_)
   have hb:(pendingOf st').back?=none:=by rw [hB'.pend];rfl
   rw [hb]
   dsimp only
   exact wpS_bind (wpS_modify (wpS_pure (.inr ⟨by lia,rfl,hB'.done hs'⟩)))
  ·dsimp only
   rw [if_pos (Nat.le_refl _)]
   exact wpS_pure ⟨rfl,hD⟩
 case post =>
  rintro c st' ⟨rfl,hD⟩
  dsimp only
  refine wpS_bind (wpS_mono (wpS_forRange (I:=fun _ c st''=>st''=st'∧c=(none,())) (Q:=fun c st''=>st''=st'∧c=(none,())) ?_ (fun _ _ hh=>hh) ⟨rfl,rfl⟩) ?_)
  ·rintro x c st'' _ _ ⟨rfl,rfl⟩
   refine wpS_bind (wpS_get ?_)
   rw [if_pos (by rw [hD.2.2.1];exact Nat.le_refl 1)]
   exact wpS_pure ⟨rfl,rfl⟩
  ·rintro c st'' ⟨rfl,rfl⟩
   exact wpS_pure (h _ hD.1 hD.2.1 hD.2.2.2)
theorem sorted_pairs {vs:List Value} {ns:List Int} (hI:IntsAre vs ns) (h:ns.Pairwise (·≤·)):SortedTo (pairsOf vs) (pairsOf vs).size:=by
 intro i j hij hj
 rw [pairsOf_size] at hj
 have hl:=hI.length
 have key:∀ k (hk:k<ns.length),PyProof.Rows.K (pairsOf vs) k=ns[k]:=fun k hk=>by
  obtain⟨t,ht⟩:=hI.get k ns[k] (List.getElem?_eq_getElem hk)
  unfold PyProof.Rows.K
  have:(pairsOf vs)[k]?=some (.int ns[k] t,.int ns[k] t):=by
   rw [←Array.getElem?_toList,pairsOf_toList,List.getElem?_zip_eq_some]
   exact⟨ht,ht⟩
  rw [this];rfl
 rw [key i (by lia),key j (by lia)]
 rcases Nat.lt_or_ge i j with h'|h'
 ·exact List.pairwise_iff_getElem.mp h i j (by lia) (by lia) h'
 ·have:i=j:=by lia
  subst this;exact Int.le_refl _
theorem list_sort_tree_asc {a:Addr} {vs:List Value} {ns:List Int} {n:Nat} {P:Fin→Shared→Prop} (ho:s.heap.get? a=some (seqObj "list" vs.toArray n))
  (hI:IntsAre vs ns) (hasc:ns.Pairwise (·≤·)) (hle:vs.length≤100000)
  (h:∀ (out:Array Value) (ns':List Int),IntsAre out.toList ns'→ns'.Perm ns→ns'.Pairwise (·≤·)→P (.done (.ret .none)) {s with heap:=sortedHeap s.heap a vs out}) :
  wpAny (model prog w) A (Builtin.«list.sort» ⟨[.ref a],[]⟩) P E s:=by
 rw [list_sort_plain]
 have ha:a<s.heap.objs.size:=Heap.lt_size ho
 refine wpAny_bind (listItems_at ho rfl ?_)
 refine wpAny_bind (listUpdate_at ho rfl ?_ (by rw [sizeLine_eq];simp;lia))
 obtain⟨e1,ho1⟩:∃ e1,(s.heap.update a (Obj.mapSeq fun _=>#[])).get? a=some (seqObj "list" #[] e1):=⟨_,get?_update_seq ho (fun _=>#[])⟩
 refine wpAny_bind (seqEpoch_at ho1 rfl ?_)
 refine wpAny_bind (wpAny_newTuple ?_ (by rw [sizeLine_eq];simp;lia))
 refine wpAny_bind (wpAny_newList ?_)
 refine wpAny_holding ?_
 have ho6:(((s.heap.update a (Obj.mapSeq fun _=>#[])).push (seqObj "tuple" vs.toArray 0)).push (seqObj "list" #[] 0)).get? a=some (seqObj "list" #[] e1):=by
  rw [Heap.get?_push_ne _ _ _ (by rw [size_push',Heap.size_update];exact Nat.ne_of_lt (Nat.lt_succ_of_lt ha)),Heap.get?_push_ne _ _ _ (by rw [Heap.size_update];exact Nat.ne_of_lt ha)]
  exact ho1
 show wpAny (model prog w) A _ P E {s with heap:=((s.heap.update a (Obj.mapSeq fun _=>#[])).push (seqObj "tuple" vs.toArray 0)).push (seqObj "list" #[] 0)}
 dsimp only
 have hsz:vs.toArray.size=vs.length:=by simp
 have fin:∀ st':SortSt,(arrOf st').Perm (pairsOf vs)→SortedTo (arrOf st') (pairsOf vs).size →
   P (.done (.ret .none)) {s with heap:=sortedHeap s.heap a vs ((arrOf st').map (·.2))}:=by
  intro st' hp hs
  obtain⟨ns',h1,h2,h3⟩:=sorted_out hI hp hs
  exact h _ ns' h1 h2 h3
 by_cases h2:vs.toArray.size<2
 ·rw [if_pos h2,if_pos h2]
  refine wpAny_bind (wpAny_pure ?_)
  rw [StateT.run_pure]
  refine wpAny_bind (wpAny_pure ?_)
  dsimp only
  refine wpAny_bind (seqEpoch_at ho6 rfl ?_)
  refine wpAny_bind (listUpdate_at ho6 rfl ?_ (hsz2:=by rw [Array.size_map];show (pairsOf vs).size≤_;rw [pairsOf_size,sizeLine_eq];lia))
  simp only [bne_self_eq_false,Bool.false_eq_true,if_false]
  refine wpAny_pure (fin (SortSt.mk' general' (vs.toArray.zip vs.toArray) #[] 7 none) (Array.Perm.refl _) ?_)
  intro i j hij hj
  have:i=j:=by rw [pairsOf_size] at hj;lia
  subst this;exact Int.le_refl _
 ·rw [if_neg h2,if_neg h2]
  obtain⟨v₁,v₂,rest,rfl⟩:∃ v₁ v₂ rest,vs=v₁::v₂::rest:=by
   match vs,hsz,h2 with
   | [],_,h2=>simp at h2
   | [_],_,h2=>simp at h2
   | v₁::v₂::rest,_,_=>exact⟨v₁,v₂,rest,rfl⟩
  rw [keyKind_ints hI]
  refine wpAny_bind (wpAny_pure ?_)
  refine wpAny_bind (wpAny_mono (wpS_sortRuns_asc (a₀:=pairsOf (v₁::v₂::rest)) (st:=SortSt.mk' oneType' ((v₁::v₂::rest).toArray.zip (v₁::v₂::rest).toArray) #[] 7 none)
   (Q:=fun _ st'=>(arrOf st').Perm (pairsOf (v₁::v₂::rest))∧failedOf st'=none∧SortedTo (arrOf st') (pairsOf (v₁::v₂::rest)).size)
   hI.intKeys ⟨Array.Perm.refl _,rfl,rfl,rfl⟩ (by rw [pairsOf_size];simp) (sorted_pairs hI hasc) fun st' a1 a2 a3=>⟨a1,a2,a3⟩) ?_ fun _ _ e=>e)
  rintro⟨⟨⟩,st'⟩ s' ⟨rfl,hp,hf,hs⟩
  dsimp only
  refine wpAny_bind (seqEpoch_at ho6 rfl ?_)
  refine wpAny_bind (listUpdate_at ho6 rfl ?_ (hsz2:=by refine Nat.le_trans (Nat.le_of_eq ((Array.size_map ..).trans (hp.size_eq.trans (pairsOf_size _)))) ?_;rw [sizeLine_eq];lia))
  rw [hf]
  simp only [bne_self_eq_false,Bool.false_eq_true,if_false]
  exact wpAny_pure (fin st' hp hs)
theorem is_int {k:Int} {v:Value} (hk:(intKind prog w).is k v=true):∃ t,v=.int k t:=by
 cases v<;>simp [intKind,Value.isInt] at hk
 exact⟨_,by rw [hk]⟩
theorem ints_of:∀ {acc:List Value} {kvs:List (Int×Value)},acc.length=kvs.length→(∀ (j:Nat) (v:Value),acc[j]?=some v→∃ k x,kvs[j]?=some (k,x)∧(intKind prog w).is k v=true)→IntsAre acc (kvs.map (·.1)):=fun {acc}=>by
 induction acc with
 | nil =>
  intro kvs hl _
  cases kvs with
  | nil=>exact .nil
  | cons _ _=>cases hl
 | cons v acc ih =>
  intro kvs hl h
  cases kvs with
  | nil=>cases hl
  | cons p kvs =>
   obtain⟨k',x',e,hk⟩:=h 0 v rfl
   cases Option.some.inj e
   obtain⟨t,rfl⟩:=is_int hk
   exact .cons _ _ (ih (Nat.succ.inj hl) fun j v hv=>h (j+1) v hv)
theorem collect_dict {d:Addr} {kvs:List (Int×Value)} {ep:Nat} {Q:List Value→Shared→Prop} (hd:(d==sysModules)=false) (hh:A.handled=none) (hm:s.heap.DictAt (intKind prog w) d kvs ep) (hn:kvs.length≤sizeLine)
  (hQ:∀ s' acc,(∀ b o,s.heap.get? b=some o→s'.heap.get? b=some o)→s'.gens=s.gens→s'.os=s.os→IntsAre acc (kvs.map (·.1))→Q acc s'):wpAny (model prog w) A (collect (.ref d)) Q E s:=by
 have hdlt:d<s.heap.objs.size:=by obtain⟨o,es,ho,_⟩:=hm;exact Heap.lt_size ho
 have hk1:∀ b o,s.heap.get? b=some o→(s.heap.push {cls:=.type "list",data:=.seq ([]:List Value).toArray}).get? b=some o:=fun b o e=>Heap.get?_push_of_some _ e
 have hm1:(s.heap.push {cls:=.type "list",data:=.seq ([]:List Value).toArray}).DictAt (intKind prog w) d kvs ep:=by obtain⟨o,es,ho,r⟩:=hm;exact⟨o,es,hk1 _ _ ho,r⟩
 obtain⟨R₀,hR₀⟩:∃ R₀:Result→Shared→Prop,R₀=(fun r s'=>r=.ok (.ret (.ref s.heap.objs.size))∧∃ (acc:Array Value) (c:Nat),(∀ b o,s.heap.get? b=some o→s'.heap.get? b=some o)∧s'.gens=s.gens∧s'.os=s.os ∧
   s'.heap.get? s.heap.objs.size=some {cls:=.type "list",dict:=none,data:=.seq acc c,slots:=#[]}∧ItemsOf (fun i v=>∃ k x,kvs[i]?=some (k,x)∧(intKind prog w).is k v=true) acc kvs.length):=⟨_,rfl⟩
 have main:codeAny (model prog w) A (.builtin "proto.collect" ⟨[.ref d],[]⟩) R₀ s:=by
  refine codeAny_builtin F.entry_proto_collect ?_
  rw [Around.under_plainId F.plain_proto_collect _]
  show wpAny _ A.in1 (newList [] >>= fun l=>again (.builtin "list.__iadd__" ⟨[l,.ref d],[]⟩)) _ _ s
  refine wpAny_bind (wpAny_newObj_type ?_)
  refine wpAny_pure ⟨plainId_quiet F.plain_list_iadd _,codeAny_builtin F.entry_list_iadd ?_⟩
  rw [Around.under_plainId F.plain_list_iadd _]
  refine kdl_extend (R:=R₀) (s:={s with heap:=s.heap.push {cls:=.type "list",data:=.seq ([]:List Value).toArray}}) (kdl_dict hd) hh hm1 s.heap.objs.size (Nat.ne_of_gt hdlt) (Nat.ne_of_gt hdlt) _ 0 (Heap.get?_push_size _ rfl) (fun h' tk acc' c' hk hS hacc=>?_) hn
  rw [hR₀]
  exact⟨rfl,acc',c',fun b o e=>hk b o (Nat.ne_of_lt (Heap.lt_size e)) (hk1 b o e),rfl,rfl,hS,hacc⟩
 unfold collect
 refine wpAny_bind (wpAny_runValue (codeAny_mono main fun r s' hr=>?_))
 rw [hR₀] at hr
 obtain⟨rfl,acc,c,hk,hg,ho,hS,hacc⟩:=hr
 show wpAny _ A (load s.heap.objs.size >>= _) _ _ _
 refine wpAny_bind (wpAny_load hS ?_)
 exact wpAny_pure (hQ s' acc.toList hk hg ho (ints_of (by rw [Array.length_toList];exact hacc.1) fun j v hv=>hacc.2 j v (by rw [←Array.getElem?_toList];exact hv)))
theorem sorted_dict {d:Addr} {kvs:List (Int×Value)} {ep:Nat} {Q:Value→Shared→Prop} (hd:(d==sysModules)=false) (hh:A.handled=none) (hm:s.heap.DictAt (intKind prog w) d kvs ep) (hn:kvs.length≤100000)
  (hor:kvs.length<64∨(kvs.map (·.1)).Pairwise (·≤·))
  (hQ:∀ s' D out ns' e,s.heap.get? D=none→(∀ b o,s.heap.get? b=some o→s'.heap.get? b=some o)→s'.gens=s.gens→s'.os=s.os→s'.heap.get? D=some (listOf out e)→IntsAre out.toList ns'→ns'.Perm (kvs.map (·.1))→ns'.Pairwise (·≤·)→Q (.ref D) s') :
  wpAny (model prog w) A (call (.builtin "sorted") [.ref d]) Q E s:=by
 refine Calls.call_function_entry kind_sorted plain_sorted entry_sorted (args_sorted1 _) ?_
 unfold Builtin.«sorted»
 refine wpAny_bind (m:=checkCount "sorted" 1 1 _) (wpAny_pure ?_)
 refine wpAny_bind (collect_dict hd hh hm (by rw [sizeLine_eq];lia) fun s₁ vs hk hg ho hI=>?_)
 have hlen:vs.length≤100000:=by have:=hI.length;rw [List.length_map] at this;lia
 refine wpAny_bind (wpAny_newList ?_ (by rw [sizeLine_eq];lia))
 have hoL:(s₁.heap.push (seqObj "list" vs.toArray 0)).get? s₁.heap.objs.size=some (seqObj "list" vs.toArray 0):=Heap.get?_push_size _ rfl
 show wpAny _ _ _ _ _ {s₁ with heap:=s₁.heap.push (seqObj "list" vs.toArray 0)}
 have fin:∀ (out:Array Value) (ns':List Int),IntsAre out.toList ns'→ns'.Perm (kvs.map (·.1))→ns'.Pairwise (·≤·)→Q (.ref s₁.heap.objs.size) {s₁ with heap:=sortedHeap (s₁.heap.push (seqObj "list" vs.toArray 0)) s₁.heap.objs.size vs out}:=by
  intro out ns' a1 a2 a3
  obtain⟨e,he⟩:=sortedHeap_at (vs:=vs) (out:=out) hoL
  have hold:∀ b o,s₁.heap.get? b=some o→(sortedHeap (s₁.heap.push (seqObj "list" vs.toArray 0)) s₁.heap.objs.size vs out).get? b=some o:=fun b o hb=>by
   rw [sortedHeap_old (Nat.ne_of_lt (Heap.lt_size hb)) (by rw [size_push'];exact Nat.lt_succ_of_lt (Heap.lt_size hb))]
   exact Heap.get?_push_of_some _ hb
  refine hQ _ _ out ns' e ?_ (fun b o hb=>hold b o (hk b o hb)) hg ho he a1 a2 a3
  cases q:s.heap.get? s₁.heap.objs.size with
  | none=>rfl
  | some o=>exact absurd (Heap.lt_size (hk _ _ q)) (Nat.lt_irrefl _)
 rcases hor with h64|hasc
 ·refine wpAny_bind (wpAny_holding (wpAny_call_entry slot_list_sort ⟨_,hoL,rfl⟩ entry_list_sort (list_sort_tree hoL hI (by have:=hI.length;rw [List.length_map] at this;lia) fun out ns' a1 a2 a3=>⟨_,rfl,?_⟩) (args_list_sort _)))
  exact wpAny_pure ⟨_,rfl,fin out ns' a1 a2 a3⟩
 ·refine wpAny_bind (wpAny_holding (wpAny_call_entry slot_list_sort ⟨_,hoL,rfl⟩ entry_list_sort (list_sort_tree_asc hoL hI hasc hlen fun out ns' a1 a2 a3=>⟨_,rfl,?_⟩) (args_list_sort _)))
  exact wpAny_pure ⟨_,rfl,fin out ns' a1 a2 a3⟩
end
end Mine
set_option genInjectivity false
namespace Mine
open PySem PySem.W PySem.Calls PyProof.Rows PySem.Spec
theorem chg_set {T:TH} {i:Nat} {k:K} {o o':O} (h:T[i]?=some (k,o)):Chg (oneX i) T (T.set i (k,o')):=by
 refine⟨fun {j k' x} e n=>?_,fun {j k' x} e=>?_⟩
 ·rw [List.getElem?_set_ne (Ne.symm n)];exact e
 ·by_cases q:i=j
  ·subst q
   rw [h] at e;cases e
   exact⟨o',List.getElem?_set_self (List.getElem?_eq_some_iff.mp h).1⟩
  ·exact⟨x,by rw [List.getElem?_set_ne q];exact e⟩
structure Wd where
 ads:List (Addr×Addr)
 s:Shared
noncomputable def foot (w:Wd) (b:Addr):Prop:=∃ p∈w.ads,p.1=b∨p.2=b
theorem foot_of {w:Wd} {i:Nat} {p:Addr×Addr} (e:w.ads[i]?=some p):foot w p.1∧foot w p.2:=⟨⟨p,List.mem_of_getElem? e,.inl rfl⟩,⟨p,List.mem_of_getElem? e,.inr rfl⟩⟩
mutual
inductive VR (w:Wd):V→Value→Prop
 | none:VR w .none .none
 | bool (b):VR w (.bool b) (.bool b)
 | int (i t):VR w (.int i) (.int i t)
 | str (x t):VR w (.str x) (.str x t)
 | tup {a o vs n l}:w.s.heap.get? a=some o→o.cls=.type "tuple"→o.data=.seq vs n→VRs w l vs.toList→VR w (.tup l) (.ref a)
 | obj {i p}:w.ads[i]?=some p→VR w (.obj i) (.ref p.1)
 | frz {a o vs n l}:w.s.heap.get? a=some o→o.cls=.type "list"→o.data=.seq vs n→IntsAre vs.toList l→¬ foot w a→VR w (.frz l) (.ref a)
inductive VRs (w:Wd):List V→List Value→Prop
 | nil:VRs w [] []
 | cons {v x vs xs}:VR w v x→VRs w vs xs→VRs w (v::vs) (x::xs)
end
section
variable {w:Wd}
theorem VRs.ind {P:List V→List Value→Prop} (h0:P [] []) (h1:∀ {v x l xs},VR w v x→VRs w l xs→P l xs→P (v::l) (x::xs)) {l:List V} {xs:List Value} (h:VRs w l xs):P l xs :=
 VRs.rec (motive_1:=fun _ _ _=>True) (motive_2:=fun l xs _=>P l xs) trivial (fun _=>trivial) (fun _ _=>trivial) (fun _ _=>trivial) (fun _ _ _ _ _=>trivial) (fun _=>trivial) (fun _ _ _ _ _=>trivial) h0 (fun a b _=>h1 a b) h
theorem VRs.length {l:List V} {xs:List Value} (h:VRs w l xs):l.length=xs.length:=h.ind (P:=fun l xs=>l.length=xs.length) rfl fun _ _ e=>congrArg (·+1) e
theorem VRs.get {l:List V} {xs:List Value} (h:VRs w l xs):∀ {i:Nat} {v:V},l[i]?=some v→∃ x,xs[i]?=some x∧VR w v x:=h.ind (P:=fun l xs=>∀ {i:Nat} {v:V},l[i]?=some v→∃ x,xs[i]?=some x∧VR w v x) (fun e=>nomatch e) fun a _ ih i _=>by
 cases i with
 | zero=>exact fun e=>⟨_,rfl,Option.some.inj e▸a⟩
 | succ i=>exact ih
theorem VRs.append {l':List V} {xs':List Value} (s:VRs w l' xs') {l:List V} {xs:List Value} (h:VRs w l xs):VRs w (l++l') (xs++xs'):=h.ind (P:=fun l xs=>VRs w (l++l') (xs++xs')) s fun a _ ih=>.cons a ih
theorem VRs.set {v:V} {x:Value} (q:VR w v x) {l:List V} {xs:List Value} (h:VRs w l xs):∀ i:Nat,VRs w (l.set i v) (xs.set i x):=h.ind (P:=fun l xs=>∀ i:Nat,VRs w (l.set i v) (xs.set i x)) (fun _=>.nil) fun a r ih i=>by
 cases i with
 | zero=>exact .cons q r
 | succ i=>exact .cons a (ih i)
theorem VRs.eraseIdx {l:List V} {xs:List Value} (h:VRs w l xs):∀ i:Nat,VRs w (l.eraseIdx i) (xs.eraseIdx i):=h.ind (P:=fun l xs=>∀ i:Nat,VRs w (l.eraseIdx i) (xs.eraseIdx i)) (fun _=>.nil) fun a r ih i=>by
 cases i with
 | zero=>exact r
 | succ i=>exact .cons a (ih i)
theorem VRs.one {v:V} {x:Value} (m:VRs w [v] [x]):VR w v x:=by cases m with|cons a _=>exact a
theorem VRs.cut {v:V} {l:List V} {x:Value} {xs:List Value} (m:VRs w (v::l) (x::xs)):VR w v x∧VRs w l xs:=by cases m with|cons a b=>exact⟨a,b⟩
@[elab_as_elim] theorem VRs.on_cons {v:V} {l:List V} {xs:List Value} {G:List Value→Prop} (m:VRs w (v::l) xs) (k:∀ x r,VR w v x→VRs w l r→G (x::r)):G xs:=by cases m with|cons a b=>exact k _ _ a b
theorem VR.s {v:V} {x:Value} (m:VR w v x):VRs w [v] [x]:=.cons m .nil
section
variable {x:Value} {G:Value→Prop}
theorem VR.inv {v:V} (r:VR w v x):(match v with
  | .none=>x=.none
  | .bool b=>x=.bool b
  | .int i=>∃ t,x=.int i t
  | .str s=>∃ t,x=.str s t
  | .tup l=>∃ a o vs n,w.s.heap.get? a=some o∧o.cls=.type "tuple"∧o.data=.seq vs n∧VRs w l vs.toList∧x=.ref a
  | .obj i=>∃ p,w.ads[i]?=some p∧x=.ref p.1
  | .frz l=>∃ a o vs n,w.s.heap.get? a=some o∧o.cls=.type "list"∧o.data=.seq vs n∧IntsAre vs.toList l∧¬ foot w a∧x=.ref a) :=
 match r with
 | .none=>rfl
 | .bool _=>rfl
 | .int _ t=>⟨t,rfl⟩
 | .str _ t=>⟨t,rfl⟩
 | .tup a b c d=>⟨_,_,_,_,a,b,c,d,rfl⟩
 | .obj e=>⟨_,e,rfl⟩
 | .frz a b c d e=>⟨_,_,_,_,a,b,c,d,e,rfl⟩
@[elab_as_elim] theorem VR.on_int {i:Int} (r:VR w (.int i) x) (k:∀ t,G (.int i t)):G x:=r.inv.elim fun t e=>e▸k t
@[elab_as_elim] theorem VR.on_str {i:Str} (r:VR w (.str i) x) (k:∀ t,G (.str i t)):G x:=r.inv.elim fun t e=>e▸k t
@[elab_as_elim] theorem VR.on_none (r:VR w .none x) (k:G .none):G x:=(r.inv:x=.none)▸k
@[elab_as_elim] theorem VR.on_obj {i:Nat} (r:VR w (.obj i) x) (k:∀ p,w.ads[i]?=some p→G (.ref p.1)):G x:=r.inv.elim fun p e=>e.2▸k p e.1
@[elab_as_elim] theorem VR.on_tup {l:List V} (r:VR w (.tup l) x) (k:∀ a o vs n,w.s.heap.get? a=some o→o.cls=.type "tuple"→o.data=.seq vs n→VRs w l vs.toList→G (.ref a)):G x :=
 r.inv.elim fun a e=>e.elim fun o e=>e.elim fun vs e=>e.elim fun n e=>e.2.2.2.2▸k a o vs n e.1 e.2.1 e.2.2.1 e.2.2.2.1
end
end
structure Le (X:Addr→Prop) (w w':Wd):Prop where
 at_:∀ {i:Nat} {p},w.ads[i]?=some p→w'.ads[i]?=some p
 keep:∀ {b o},w.s.heap.get? b=some o→¬ foot w b→¬ X b→w'.s.heap.get? b=some o
 stay:∀ {b o},w.s.heap.get? b=some o→∃ o',w'.s.heap.get? b=some o'
 new:∀ {b},foot w' b→foot w b∨w.s.heap.get? b=none
 gens:w'.s.gens=w.s.gens
 os:w'.s.os=w.s.os
noncomputable abbrev noA:Addr→Prop:=fun _=>False
theorem absurd_get {h:Heap} {b:Addr} {o:Obj} {p:Prop} (e:h.get? b=some o) (n:h.get? b=none):p:=by rw [e] at n;cases n
section
variable {X:Addr→Prop} {w w' w₁ w₂ w₃:Wd} {b:Addr} {o:Obj}
theorem Le.refl:Le X w w:=⟨id,fun e _ _=>e,fun e=>⟨_,e⟩,.inl,rfl,rfl⟩
theorem Le.off (l:Le X w w') (e:w.s.heap.get? b=some o) (n:¬ foot w b):¬ foot w' b:=fun f=>(l.new f).elim n (absurd_get e)
theorem Le.was (x:Le X w w') (q:w'.s.heap.get? b=Option.none):w.s.heap.get? b=Option.none:=by
 cases e:w.s.heap.get? b with
 | none=>exact Eq.refl Option.none
 | some o=>exact absurd_get (x.stay e).choose_spec q
theorem Le.trans (x:Le X w₁ w₂) (y:Le X w₂ w₃):Le X w₁ w₃ :=
 ⟨fun e=>y.at_ (x.at_ e),fun e n nx=>y.keep (x.keep e n nx) (x.off e n) nx,fun e=>y.stay (x.stay e).choose_spec,fun f=>(y.new f).elim x.new fun q=>.inr (x.was q),y.gens.trans x.gens,y.os.trans x.os⟩
theorem Le.weaken {Y:Addr→Prop} (x:Le X w w') (h:∀ b o,w.s.heap.get? b=some o→Y b∨¬ X b):Le Y w w' :=
 ⟨x.at_,fun e n ny=>x.keep e n ((h _ _ e).resolve_left ny),x.stay,x.new,x.gens,x.os⟩
theorem Le.any {Y:Addr→Prop} (x:Le noA w w'):Le Y w w':=x.weaken fun _ _ _=>.inr id
theorem Le.gone (x:Le (fun c=>c=b) w w') (h:w.s.heap.get? b=none):Le noA w w':=x.weaken fun c o e=>.inr fun (q:c=b)=>absurd_get e (q▸h)
end
noncomputable def attrOk (K:Frag) (C:Addr) (name:Str):Bool:=findIn K (.ref C) name==some none
noncomputable def clsOk (K:Frag) (C:Addr) (names:List Str):Bool :=
 plainGet K C ""&&hasDictIn K C&&findIn K (.ref C) "__setattr__"==some (some (.builtin "object.__setattr__"))&&plainOver K C&&makesIn K C&&names.all (attrOk K C)
noncomputable abbrev attrsOf (c:Nat):List Str:=tab.attrs.getD c []
structure Setup where
 prog:Program
 w:World
 g:Heap
 K:Frag
 cls:Nat→Addr
 fn:Nat→Addr
 mg:Str→Option Value
 mb:Str→Option Value
 low:∃ o,g.get? sysModules=some o
 inK:K.In g
 gns:g.Ns mainGlobals mg
 bns:g.Ns builtinsNs mb
 nol:g.NoLimit
 nod:g.NoDigits
 cok:∀ c,c<tab.cnames.length→clsOk K (cls c) (attrsOf c)=true
 gval:∀ (x:Nat) v nm,gtab[x]?=some v→tab.gnames[x]?=some nm→∃ r,mg nm=some r∧∀ w:Wd,K.In w.s.heap→VR w v r
 blt:∀ nm v,(nm,v)∈[(Str.ofString "len",Value.builtin "len"),(Str.ofString "sorted",.builtin "sorted"),(Str.ofString "range",.type "range"),(Str.ofString "tuple",.type "tuple"),(Str.ofString "str",.type "str")]→mg nm=none∧mb nm=some v
 tid:∃ td kvs,mg (Str.ofString "TID_PRIM")=some (.ref td)∧(td==sysModules)=false∧g.DictOf (PySem.intKind prog w) td kvs∧kvs.map (·.1)=[20,9,10,11,12,13,14,15,16,17,18,19,1,4]
 calls:∀ p∈tab.gfns,mg p.1=some (.ref (fn p.2))∧keepIn K (.ref (fn p.2))=true
 cg:∀ (c:Nat) x,tab.cnames[c]?=some x→mg x=some (.ref (cls c))∧keepIn K (.ref (cls c))=true
 inits:∀ p∈tab.inits,findIn K (.ref (cls p.1)) "__init__"=some (some (.ref (fn p.2)))∧typeIn K (.ref (fn p.2))=some (.type "function")
 new0s:∀ c∈tab.new0s,findIn K (.ref (cls c)) "__init__"=some (some (.builtin "object.__init__"))
 meths:∀ p∈tab.meths,p.1<tab.cnames.length∧findIn K (.ref (cls p.1)) p.2.1=some (some (.ref (fn p.2.2)))∧isFn K (.ref (fn p.2.2))=true∧p.2.1∉attrsOf p.1∧keepIn K (.ref (fn p.2.2))=true
end Mine
set_option genInjectivity false
namespace Mine
open PySem PySem.W PySem.Calls PyProof.Rows PySem.Spec
noncomputable abbrev Setup.M (W:Setup):Model:=model W.prog W.w
noncomputable abbrev Setup.sk (W:Setup):PySem.KeyKind W.prog W.w Str:=PySem.strKind W.prog W.w
noncomputable abbrev Setup.ik (W:Setup):PySem.KeyKind W.prog W.w Int:=PySem.intKind W.prog W.w
noncomputable def isTupObj (o:Obj):Prop:=o.cls=.type "tuple"∧∃ vs n,o.data=.seq vs n
section
variable {W:Setup}
structure DR {K':Type} [DecidableEq K'] (knd:PySem.KeyKind W.prog W.w K') (w:Wd) (l:List (K'×V)) (a:Addr) (kvs:List (K'×Value)):Prop where
 d:w.s.heap.DictOf knd a kvs
 k:kvs.map (·.1)=l.map (·.1)
 v:VRs w (l.map (·.2)) (kvs.map (·.2))
structure DRt (W:Setup) (w:Wd) (l:List (NKey×V)) (a:Addr) (xs:List (NKey×Addr×Value)):Prop where
 d:w.s.heap.DictOfH (nestKind W.prog W.w) a xs
 k:xs.map (·.1)=l.map (·.1)
 t:VRs w (l.map fun p=>NKey.toV p.1) (xs.map fun x=>.ref x.2.1)
 v:VRs w (l.map (·.2)) (xs.map (·.2.2))
end
inductive OR (W:Setup) (w:Wd):O→Addr×Addr→Prop
 | list {a vs n l}:w.s.heap.get? a=some (listOf vs n)→VRs w l vs.toList→OR W w (.list l) (a,a)
 | di {a kvs l}:DR W.ik w l a kvs→OR W w (.di l) (a,a)
 | ds {a kvs l}:DR W.sk w l a kvs→OR W w (.ds l) (a,a)
 | dt {a xs l}:DRt W w l a xs→OR W w (.dt l) (a,a)
 | wd {a kvs l}:DR W.sk w (tab.wks.zip l) a kvs→l.length≤tab.wks.length→OR W w (.wd l) (a,a)
 | inst {x dx c fs m vals}:w.s.heap.get? x=some (instObj (W.cls c) dx)→w.s.heap.Ns1 dx m→(∀ n,m n=((attrsOf c).zip vals).lookup n)→VRs w fs vals→fs.length≤(attrsOf c).length→x≠dx→OR W w (.inst c fs) (x,dx)
section
variable {W:Setup} {w:Wd} {p:Addr×Addr} {G:Addr×Addr→Prop}
theorem OR.inv {o:O} (r:OR W w o p):(match o with
  | .list l=>∃ a vs n,w.s.heap.get? a=some (listOf vs n)∧VRs w l vs.toList∧p=(a,a)
  | .di l=>∃ a kvs,DR W.ik w l a kvs∧p=(a,a)
  | .ds l=>∃ a kvs,DR W.sk w l a kvs∧p=(a,a)
  | .dt l=>∃ a xs,DRt W w l a xs∧p=(a,a)
  | _=>True) :=
 match r with
 | .list a b=>⟨_,_,_,a,b,rfl⟩
 | .di a=>⟨_,_,a,rfl⟩
 | .ds a=>⟨_,_,a,rfl⟩
 | .dt a=>⟨_,_,a,rfl⟩
 | .wd _ _=>trivial
 | .inst _ _ _ _ _ _=>trivial
end
theorem VR.mono2 {w w':Wd} (at_:∀ {i:Nat} {p},w.ads[i]?=some p→w'.ads[i]?=some p) (k:∀ b o,w.s.heap.get? b=some o→((isTupObj o)∨¬ foot w b)→(∃ vs n,o.data=.seq vs n)→w'.s.heap.get? b=some o∧(¬ foot w b→¬ foot w' b)) :
  (∀ {v:V} {x:Value},VR w v x→VR w' v x)∧∀ {v:List V} {x:List Value},VRs w v x→VRs w' v x:=by
 have t:∀ {a o vs n l},w.s.heap.get? a=some o→o.cls=.type "tuple"→o.data=.seq vs n→VRs w l vs.toList→VRs w' l vs.toList→VR w' (.tup l) (.ref a):=fun ho hc hd _ ih=>.tup (k _ _ ho (.inl ⟨hc,_,_,hd⟩) ⟨_,_,hd⟩).1 hc hd ih
 have f:∀ {a o vs n l},w.s.heap.get? a=some o→o.cls=.type "list"→o.data=.seq vs n→IntsAre vs.toList l→¬ foot w a→VR w' (.frz l) (.ref a):=fun ho hc hd hi hf=>have q:=k _ _ ho (.inr hf) ⟨_,_,hd⟩;.frz q.1 hc hd hi (q.2 hf)
 exact⟨fun h=>VR.rec (motive_1:=fun v x _=>VR w' v x) (motive_2:=fun l xs _=>VRs w' l xs) .none .bool .int .str t (fun e=>.obj (at_ e)) f .nil (fun _ _=>.cons) h,
  fun h=>VRs.rec (motive_1:=fun v x _=>VR w' v x) (motive_2:=fun l xs _=>VRs w' l xs) .none .bool .int .str t (fun e=>.obj (at_ e)) f .nil (fun _ _=>.cons) h⟩
theorem nItem_is {w:Wd} {k:Option Int} {x:Value} (h:VR w (iV k) x):NItem w.s.heap k x:=by
 cases k with
 | some i=>cases h;exact⟨_,rfl⟩
 | none =>
  cases h with
  | tup ho hc hd hr =>
   rename_i vs n
   obtain⟨L⟩:=vs
   cases hr
   exact⟨_,_,n,rfl,ho,hc,hd⟩
theorem nItems_is {w:Wd} {ks:List (Option Int)}:∀ {xs:List Value},VRs w (ks.map iV) xs→NItems w.s.heap ks xs:=by
 induction ks with
 | nil=>intro xs h;cases h;exact .nil
 | cons k ks ih=>intro xs h;cases h with|cons a r=>exact .cons (nItem_is a) (ih r)
theorem nkey_is {w:Wd} {k:NKey} {a:Addr} (x:VR w k.toV (.ref a)):IsNKey w.s.heap k a:=by
 cases x with
 | tup ho hc hd hr=>exact⟨_,_,_,ho,hc,hd,nItems_is hr⟩
theorem toV_ref {w:Wd} {k:NKey} {x:Value} (h1:VR w k.toV x):∃ a,x=.ref a:=by
 cases h1;exact⟨_,rfl⟩
theorem map_get {α β:Type} {l:List α} {f:α→β} {i:Nat} {a:α} (h:l[i]?=some a):(l.map f)[i]?=some (f a):=by rw [List.getElem?_map,h];rfl
theorem dt_is {w:Wd} {l:List (NKey×V)} {xs:List (NKey×Addr×Value)} (hk:xs.map (·.1)=l.map (·.1)) (hr:VRs w (l.map fun p=>NKey.toV p.1) (xs.map fun x=>.ref x.2.1)) (x:NKey×Addr×Value) (m:x∈xs):IsNKey w.s.heap x.1 x.2.1:=by
 obtain⟨i,hi⟩:=List.getElem?_of_mem m
 have h1:(l.map fun p=>p.1)[i]?=some x.1:=by rw [←hk];exact map_get (f:=fun y:NKey×Addr×Value=>y.1) hi
 have h2:(l.map fun p=>NKey.toV p.1)[i]?=some (NKey.toV x.1):=by rw [←map_get (f:=NKey.toV) h1,List.map_map];rfl
 obtain⟨y,hy,hv⟩:=hr.get h2
 rw [map_get hi] at hy
 exact nkey_is (Option.some.inj hy▸hv)
section
variable {W:Setup} {w w':Wd} {o:O} {p:Addr×Addr}
theorem OR.at (x:OR W w o p) (e1:∀ ob,w.s.heap.get? p.1=some ob→w'.s.heap.get? p.1=some ob) (e2:∀ ob,w.s.heap.get? p.2=some ob→w'.s.heap.get? p.2=some ob)
  (m:∀ l xs,VRs w l xs→VRs w' l xs):OR W w' o p:=by
 cases x with
 | list a b=>exact .list (e1 _ a) (m _ _ b)
 | di a=>obtain⟨⟨o,es,ep,ho,r⟩,b,c⟩:=a;exact .di ⟨⟨o,es,ep,e1 _ ho,r⟩,b,m _ _ c⟩
 | ds a=>obtain⟨⟨o,es,ep,ho,r⟩,b,c⟩:=a;exact .ds ⟨⟨o,es,ep,e1 _ ho,r⟩,b,m _ _ c⟩
 | dt a =>
  have tt:=m _ _ a.t
  obtain⟨⟨o,es,ep,ho,r1,r2,r3,_,r5⟩,b,c,d⟩:=a
  exact .dt ⟨⟨o,es,ep,e1 _ ho,r1,r2,r3,dt_is b tt,r5⟩,b,tt,m _ _ d⟩
 | wd a d=>obtain⟨⟨o,es,ep,ho,r⟩,b,c⟩:=a;exact .wd ⟨⟨o,es,ep,e1 _ ho,r⟩,b,m _ _ c⟩ d
 | inst a b c d e f=>exact .inst (e1 _ a) (b.at e2) c (m _ _ d) e f
theorem OR.foot_obj (x:OR W w o p) {b:Addr} (hb:p.1=b∨p.2=b):∃ ob,w.s.heap.get? b=some ob∧¬ isTupObj ob:=by
 have dict {b:Addr} {o:Obj} {es ep} (ho:w.s.heap.get? b=some o) (hd:o.data=.dict es ep):∃ ob,w.s.heap.get? b=some ob∧¬ isTupObj ob:=⟨o,ho,fun ⟨_,vs,n,e⟩=>nomatch hd.symm.trans e⟩
 have one {a:Addr} (hb:a=b∨a=b):a=b:=hb.elim id id
 cases x with
 | list a _=>exact one hb▸⟨_,a,fun ⟨e,_⟩=>by simp at e⟩
 | di a=>obtain⟨⟨o,es,ep,ho,_,hd,_⟩,_⟩:=a;exact one hb▸dict ho hd
 | ds a=>obtain⟨⟨o,es,ep,ho,_,hd,_⟩,_⟩:=a;exact one hb▸dict ho hd
 | dt a=>obtain⟨⟨o,es,ep,ho,_,hd,_⟩,_⟩:=a;exact one hb▸dict ho hd
 | wd a _=>obtain⟨⟨o,es,ep,ho,_,hd,_⟩,_⟩:=a;exact one hb▸dict ho hd
 | inst a b =>
  obtain⟨o,es,ep,ho,hd,_⟩:=b
  exact hb.elim (fun e=>e▸⟨_,a,fun ⟨e,_⟩=>by simp at e⟩) fun e=>e▸dict ho hd
end
structure St (W:Setup) (T:TH) (w:Wd):Prop where
 len:w.ads.length=T.length
 sep:∀ {i j:Nat} {p q:Addr×Addr},w.ads[i]?=some p→w.ads[j]?=some q→i≠j→p.1≠q.1∧p.1≠q.2∧p.2≠q.1∧p.2≠q.2
 obj:∀ {i:Nat} {k:K} {o:O} {p:Addr×Addr},T[i]?=some (k,o)→w.ads[i]?=some p→OR W w o p
 base:∀ {b o},W.g.get? b=some o→w.s.heap.get? b=some o
 off:∀ {b},foot w b→W.g.get? b=none
section
variable {W:Setup} {w:Wd} {T:TH} {i:Nat} {k:K} {p:Addr×Addr} {G:Addr×Addr→Prop}
@[elab_as_elim] theorem St.on_list {l:List V} (S:St W T w) (ht:T[i]?=some (k,.list l)) (hi:w.ads[i]?=some p) (c:∀ a vs n,w.ads[i]?=some (a,a)→w.s.heap.get? a=some (listOf vs n)→VRs w l vs.toList→G (a,a)):G p :=
 (S.obj ht hi).inv.elim fun a e=>e.elim fun vs e=>e.elim fun n e=>e.2.2▸c a vs n (e.2.2▸hi) e.1 e.2.1
@[elab_as_elim] theorem St.on_ds {l:List (Str×V)} (S:St W T w) (ht:T[i]?=some (k,.ds l)) (hi:w.ads[i]?=some p) (c:∀ a kvs,w.ads[i]?=some (a,a)→DR W.sk w l a kvs→G (a,a)):G p :=
 (S.obj ht hi).inv.elim fun a e=>e.elim fun kvs e=>e.2▸c a kvs (e.2▸hi) e.1
@[elab_as_elim] theorem St.on_dt {l:List (NKey×V)} (S:St W T w) (ht:T[i]?=some (k,.dt l)) (hi:w.ads[i]?=some p) (c:∀ a xs,w.ads[i]?=some (a,a)→DRt W w l a xs→G (a,a)):G p :=
 (S.obj ht hi).inv.elim fun a e=>e.elim fun xs e=>e.2▸c a xs (e.2▸hi) e.1
@[elab_as_elim] theorem St.on_di {l:List (Int×V)} (S:St W T w) (ht:T[i]?=some (k,.di l)) (hi:w.ads[i]?=some p) (c:∀ a kvs,w.ads[i]?=some (a,a)→DR W.ik w l a kvs→G (a,a)):G p :=
 (S.obj ht hi).inv.elim fun a e=>e.elim fun kvs e=>e.2▸c a kvs (e.2▸hi) e.1
end
noncomputable def Dicts (X:Addr→Prop) (h:Heap):Prop:=∀ b o,X b→h.get? b=some o→∀ vs n,o.data≠.seq vs n
theorem Dicts.none {h:Heap}:Dicts noA h:=fun _ _ f=>f.elim
section
variable {W:Setup} {T:TH} {w w':Wd} {X:Addr→Prop} {b:Addr} {k:K} {o:O} {p:Addr×Addr} {i:Nat}
theorem St.foot_obj (S:St W T w) (f:foot w b):∃ o,w.s.heap.get? b=some o∧¬ isTupObj o:=by
 obtain⟨p,hp,hb⟩:=f
 obtain⟨i,hi⟩:=List.getElem?_of_mem hp
 have ho:T[i]?=some (T[i]'(S.len▸(List.getElem?_eq_some_iff.mp hi).1)):=List.getElem?_eq_getElem _
 exact (S.obj ho hi).foot_obj hb
theorem St.not_foot (S:St W T w) (h:w.s.heap.get? b=none):¬ foot w b:=fun f=>absurd_get (S.foot_obj f).choose_spec.1 h
theorem St.gnone (S:St W T w) (h:w.s.heap.get? b=none):W.g.get? b=none:=by
 cases q:W.g.get? b with
 | none=>rfl
 | some o=>exact absurd_get (S.base q) h
theorem St.mono2 (S:St W T w) (x:Le X w w') (hX:Dicts X w.s.heap):(∀ {v:V} {x:Value},VR w v x→VR w' v x)∧∀ {v:List V} {x:List Value},VRs w v x→VRs w' v x :=
 VR.mono2 x.at_ fun b o e c ⟨vs,n,hd⟩=>by
  have nf:¬ foot w b:=fun f=>c.elim (fun t=>by
   obtain⟨o',ho',n⟩:=S.foot_obj f
   rw [e] at ho';cases ho'
   exact n t) fun n=>n f
  exact⟨x.keep e nf fun q=>hX b o q e vs n hd,fun _=>x.off e nf⟩
theorem St.mono (S:St W T w) (x:Le noA w w') {v:V} {r:Value} (h:VR w v r):VR w' v r:=(S.mono2 x .none).1 h
theorem St.extend (S:St W T w) (x:Le X w w') (ha:w'.ads=w.ads) (hX:Dicts X w.s.heap) (hF:∀ b o,foot w b→w.s.heap.get? b=some o→w'.s.heap.get? b=some o) (hg:∀ b,X b→W.g.get? b=none):St W T w':=by
 obtain⟨ads',s'⟩:=w'
 cases ha
 exact⟨S.len,S.sep,fun e hp=>(S.obj e hp).at (fun ob=>hF _ ob (foot_of hp).1) (fun ob=>hF _ ob (foot_of hp).2) fun l xs h=>(S.mono2 x hX).2 h,
  fun e=>x.keep (S.base e) (fun f=>absurd_get e (S.off f)) fun q=>absurd_get e (hg _ q),S.off⟩
theorem Le.same {s:Shared} (k:∀ {b o},w.s.heap.get? b=some o→¬ X b→s.heap.get? b=some o) (z:∀ {b o},w.s.heap.get? b=some o→∃ o',s.heap.get? b=some o') (hg:s.gens=w.s.gens) (ho:s.os=w.s.os):Le X w ⟨w.ads,s⟩ :=
 ⟨id,fun e _ nx=>k e nx,z,.inl,hg,ho⟩
theorem Le.kept {s:Shared} (k:∀ {b o},w.s.heap.get? b=some o→s.heap.get? b=some o) (hg:s.gens=w.s.gens) (ho:s.os=w.s.os):Le noA w ⟨w.ads,s⟩:=.same (fun e _=>k e) (fun e=>⟨_,k e⟩) hg ho
theorem St.kept (S:St W T w) {s:Shared} (k:∀ {b o},w.s.heap.get? b=some o→s.heap.get? b=some o) (hg:s.gens=w.s.gens) (ho:s.os=w.s.os):St W T ⟨w.ads,s⟩ :=
 S.extend (Le.kept k hg ho) rfl .none (fun _ _ _=>k) fun _ f=>f.elim
theorem get_snoc {α:Type} {l:List α} {x y:α} {i:Nat} (e:(l++[x])[i]?=some y):l[i]?=some y∨i=l.length∧y=x:=by
 rcases Nat.lt_trichotomy i l.length with h|h|h
 ·rw [List.getElem?_append_left h] at e;exact .inl e
 ·subst h;rw [List.getElem?_concat_length] at e;exact .inr ⟨rfl,(Option.some.inj e).symm⟩
 ·rw [List.getElem?_eq_none (by rw [List.length_append];exact h)] at e;cases e
theorem get_end {α:Type} {l:List α} {x:α}:(l++[x])[l.length]?=some x:=List.getElem?_concat_length
theorem get_old {α:Type} {l:List α} {x y:α} {i:Nat} (e:l[i]?=some y):(l++[x])[i]?=some y:=by rw [List.getElem?_append_left (List.getElem?_eq_some_iff.mp e).1];exact e
theorem St.alloc (S:St W T w) {s:Shared} (k':∀ {b o},w.s.heap.get? b=some o→s.heap.get? b=some o) (h1:w.s.heap.get? p.1=none) (h2:w.s.heap.get? p.2=none)
  (hg:s.gens=w.s.gens) (hos:s.os=w.s.os) (ho:(∀ {l xs},VRs w l xs→VRs ⟨w.ads++[p],s⟩ l xs)→OR W ⟨w.ads++[p],s⟩ o p):St W (T++[(k,o)]) ⟨w.ads++[p],s⟩∧Le noA w ⟨w.ads++[p],s⟩:=by
 have ft:∀ {b},foot ⟨w.ads++[p],s⟩ b→foot w b∨w.s.heap.get? b=none:=fun ⟨q,hq,hb⟩=>(List.mem_append.mp hq).elim (fun m=>.inl ⟨q,m,hb⟩) fun m=>by
  rw [List.mem_singleton] at m;subst m
  exact .inr (hb.elim (fun e=>e▸h1) fun e=>e▸h2)
 have x:Le noA w ⟨w.ads++[p],s⟩:=⟨get_old,fun e _ _=>k' e,fun e=>⟨_,k' e⟩,ft,hg,hos⟩
 have ne {a b:Addr} (f:foot w a) (y:w.s.heap.get? b=none):a≠b:=fun e=>S.not_foot y (e▸f)
 refine⟨⟨by rw [List.length_append,List.length_append,S.len];rfl,fun {i j q r} hi hj hij=>?_,fun {i k₀ o' q} e hq=>?_,fun e=>k' (S.base e),fun f=>(ft f).elim S.off S.gnone⟩,x⟩
 ·rcases get_snoc (l:=w.ads) hi with h|⟨h,e⟩<;>rcases get_snoc (l:=w.ads) hj with h'|⟨h',e'⟩
  ·exact S.sep h h' hij
  ·have f:=foot_of h;rw [e'];exact⟨ne f.1 h1,ne f.1 h2,ne f.2 h1,ne f.2 h2⟩
  ·have f:=foot_of h';rw [e];exact⟨(ne f.1 h1).symm,(ne f.2 h1).symm,(ne f.1 h2).symm,(ne f.2 h2).symm⟩
  ·exact absurd (h.trans h'.symm) hij
 ·rcases get_snoc e with h|⟨h,e'⟩<;>rcases get_snoc (l:=w.ads) hq with h'|⟨h',e''⟩
  ·exact (S.obj h h').at (fun ob=>k') (fun ob=>k') fun l xs h=>(S.mono2 x .none).2 h
  ·exact absurd (List.getElem?_eq_some_iff.mp h).1 (by rw [h',S.len];exact Nat.lt_irrefl _)
  ·exact absurd (List.getElem?_eq_some_iff.mp h').1 (by rw [h,S.len];exact Nat.lt_irrefl _)
  ·rw [e''];cases e';exact ho (S.mono2 x .none).2
theorem St.update (S:St W T w) {s:Shared} {k₀:K} {o₀:O} (hi:w.ads[i]?=some p) (hT:T[i]?=some (k₀,o₀)) (k':∀ {b o},b≠p.1→b≠p.2→w.s.heap.get? b=some o→s.heap.get? b=some o)
  (hg:s.gens=w.s.gens) (hos:s.os=w.s.os) (ho:(∀ {v x},VR w v x→VR ⟨w.ads,s⟩ v x)→(∀ {l xs},VRs w l xs→VRs ⟨w.ads,s⟩ l xs)→OR W ⟨w.ads,s⟩ o p):St W (T.set i (k,o)) ⟨w.ads,s⟩∧Le noA w ⟨w.ads,s⟩:=by
 have f:=foot_of hi
 have kf:∀ {b o},w.s.heap.get? b=some o→¬ foot w b→s.heap.get? b=some o:=fun e n=>k' (fun q=>n (q▸f.1)) (fun q=>n (q▸f.2)) e
 have mon:=VR.mono2 (w:=w) (w':=⟨w.ads,s⟩) id fun b o e c _=>⟨kf e fun f=>c.elim (fun t=>by
   obtain⟨o',ho',n⟩:=S.foot_obj f
   rw [e] at ho';cases ho'
   exact n t) fun n=>n f,id⟩
 have hor:=ho mon.1 mon.2
 have x:Le noA w ⟨w.ads,s⟩:=⟨id,fun e n _=>kf e n,fun {b o} e=>by
  by_cases h1:p.1=b
  ·exact⟨_,(hor.foot_obj (.inl h1)).choose_spec.1⟩
  ·by_cases h2:p.2=b
   ·exact⟨_,(hor.foot_obj (.inr h2)).choose_spec.1⟩
   ·exact⟨_,k' (Ne.symm h1) (Ne.symm h2) e⟩,.inl,hg,hos⟩
 refine⟨⟨by rw [S.len,List.length_set],S.sep,fun {j k₁ o' q} e hq=>?_,fun e=>kf (S.base e) fun f=>absurd_get e (S.off f),S.off⟩,x⟩
 by_cases hij:i=j
 ·subst hij
  rw [hi] at hq;cases hq
  rw [List.getElem?_set_self (List.getElem?_eq_some_iff.mp hT).1] at e
  cases e;exact hor
 ·rw [List.getElem?_set_ne hij] at e
  have sp:=S.sep hi hq hij
  exact (S.obj e hq).at (fun ob=>k' (Ne.symm sp.1) (Ne.symm sp.2.2.1)) (fun ob=>k' (Ne.symm sp.2.1) (Ne.symm sp.2.2.2)) fun _ _=>mon.2
end
end Mine
set_option genInjectivity false
namespace Mine
open PySem PySem.W PySem.Calls PyProof.Rows PySem.Spec
noncomputable abbrev noE:Value→Shared→Prop:=fun _ _=>False
structure Frame (W:Setup) (n:Nat) where
 names:List Str
 sc:Scope
 A:Around
 env:Env
 hh:A.handled=none
 depth:A.depth+3*n+5<recursionLimit
 units:A.units+10*n+100<cLine
 fn:env.scope.kind=.function
 gl:env.globals=mainGlobals
 bl:env.builtins=builtinsNs
 loc:∀ x,sc.names.lookup x=some .local→env.kindOf x=some .local
 glob:∀ x,sc.names.lookup x=some .globalImplicit→env.kindOf x=some .globalImplicit
 cell:∀ x,sc.names.lookup x=some .cell→env.kindOf x=some .cell
 low:W.g.get? env.locals=none
 nd:names.Nodup
inductive NameR (env:Env) (w:Wd) (m:Str→Option Value) (x:Str) (z:Value):Prop
 | loc:env.kindOf x=some .local→m x=some z→NameR env w m x z
 | cell {c}:env.kindOf x=some .cell∨env.kindOf x=some .free→env.cells.lookup x=some c→w.s.heap.IsCell c (some z)→¬ foot w c→NameR env w m x z
section
variable {W:Setup} {n:Nat}
structure NamesR (F:Frame W n) (ρ:Rho) (w:Wd) (m:Str→Option Value):Prop where
 ns:w.s.heap.Ns F.env.locals m
 at_:∀ {i:Nat} {v:V},(ρ[i]?).join=some v→∃ x z,F.names[i]?=some x∧VR w v z∧NameR F.env w m x z
structure Here (F:Frame W n) (ρ:Rho) (T:TH) (w:Wd):Prop where
 f:∃ m,NamesR F ρ w m
 nf:¬ foot w F.env.locals
 st:St W T w
noncomputable def ESnd (F:Frame W n) (p:E) (l:Expr):Prop:=∀ {ρ:Rho} {T:TH} {w:Wd} {Q:PE'} {R:Value→Shared→Prop},EV (CN n) ρ p T Q→Here F ρ T w →
 (∀ v T' x w',Q v T'→VR w' v x→Here F ρ T' w'→Le noA w w'→R x w'.s)→wpAny W.M F.A (eval l F.env) R noE w.s
noncomputable def EsSnd (F:Frame W n) (p:List E) (l:List Expr):Prop:=∀ {ρ:Rho} {T:TH} {w:Wd} {Q:PEs'} {R:List Value→Shared→Prop} {pos:Pos},EVs (CN n) ρ p T Q→Here F ρ T w →
 (∀ v T' x w',v.length=p.length→Q v T'→VRs w' v x→Here F ρ T' w'→Le noA w w'→R x w'.s)→wpAny W.M F.A (spliced (backTo pos (starEach l F.env))) R noE w.s
end
theorem GetM.on {α:Type} {x:Option α} {P:α→Prop} {G:Prop} (q:GetM x P) (k:∀ a,x=some a→P a→G):G:=by
 cases x with
 | none=>exact q.elim
 | some a=>exact k a rfl q
@[elab_as_elim] theorem BoolM.on {x:V} {P:Bool→Prop} {w:Wd} {z:Value} {G:Value→Prop} (q:BoolM x P) (r:VR w x z) (k:∀ b,P b→G (.bool b)):G z:=by
 cases r with
 | bool b=>exact k b q
 | _=>exact q.elim
@[elab_as_elim] theorem IntM.on {x:V} {P:Int→Prop} {w:Wd} {z:Value} {G:Value→Prop} (q:IntM x P) (r:VR w x z) (k:∀ i t,P i→G (.int i t)):G z:=by
 cases r with
 | int i t=>exact k i t q
 | _=>exact q.elim
@[elab_as_elim] theorem ObjM.on {x:V} {P:Nat→Prop} {w:Wd} {z:Value} {G:Value→Prop} (q:ObjM x P) (r:VR w x z) (k:∀ o p,w.ads[o]?=some p→P o→G (.ref p.1)):G z:=by
 cases r with
 | obj e=>exact k _ _ e q
 | _=>exact q.elim
section
variable {W:Setup} {n:Nat} {F:Frame W n} {ρ:Rho} {T T':TH} {w w' w₀:Wd} {Q:PE'} {R:Value→Shared→Prop} {p q:E} {l r:Expr} {pos:Pos} {v x y:V} {z zv xv yv:Value}
theorem Ns.dict {h:Heap} {a:Addr} {m:Str→Option Value} (N:h.Ns a m):∀ o,h.get? a=some o→∀ vs n,o.data≠.seq vs n:=fun o e vs n q=>by
 obtain⟨o',es,ep,ho,hd,_⟩:=N
 rw [ho] at e;cases e;exact nomatch hd.symm.trans q
theorem Ns.nocell {h:Heap} {a:Addr} {m:Str→Option Value} (N:h.Ns a m):∀ o,h.get? a=some o→∀ v,o.data≠.cell v:=fun o e v q=>by
 obtain⟨o',es,ep,ho,hd,_⟩:=N
 rw [ho] at e;cases e;exact nomatch hd.symm.trans q
theorem NameR.mono {m:Str→Option Value} {x:Str} (h:NameR F.env w m x z) (k:∀ c o v,w.s.heap.get? c=some o→o.data=.cell v→¬ foot w c→w'.s.heap.get? c=some o∧¬ foot w' c):NameR F.env w' m x z:=by
 cases h with
 | loc a b=>exact .loc a b
 | cell a b c d =>
  obtain⟨o,ho,rc⟩:=c
  exact .cell a b ⟨o,(k _ _ _ ho rc d).1,rc⟩ (k _ _ _ ho rc d).2
theorem NameR.ext {X:Addr→Prop} {m:Str→Option Value} {x:Str} (h:NameR F.env w m x z) (e:Le X w w') (hX:∀ c o,X c→w.s.heap.get? c=some o→∀ v,o.data≠.cell v):NameR F.env w' m x z :=
 h.mono fun c o v ho rc d=>⟨e.keep ho d fun q=>hX _ _ q ho _ rc,e.off ho d⟩
theorem Here.ext (h:Here F ρ T w) (S:St W T' w') (e:Le noA w w'):Here F ρ T' w':=by
 obtain⟨m,⟨o,es,ep,ho,rn⟩,ha⟩:=h.f
 refine⟨⟨m,⟨o,es,ep,e.keep ho h.nf id,rn⟩,fun hv=>?_⟩,e.off ho h.nf,S⟩
 obtain⟨x,z,h1,h2,h3⟩:=ha hv
 exact⟨x,z,h1,h.st.mono e h2,h3.ext e fun _ _ f=>f.elim⟩
theorem Le.toks (t:Nat):Le noA w ⟨w.ads,{w.s with toks:=t}⟩:=⟨id,fun e _ _=>e,fun e=>⟨_,e⟩,.inl,rfl,rfl⟩
theorem Here.toks (h:Here F ρ T w) (t:Nat):Here F ρ T ⟨w.ads,{w.s with toks:=t}⟩:=h.ext (h.st.kept (s:={w.s with toks:=t}) id rfl rfl) (.toks t)
theorem Here.done (h:Here F ρ T w) (k:∀ v T' x w',Q v T'→VR w' v x→Here F ρ T' w'→Le noA w₀ w'→R x w'.s) (e:Le noA w₀ w) (q:Q v T) (hz:VR w v z) {t:Nat}:R z {w.s with toks:=t} :=
 k v T z ⟨w.ads,{w.s with toks:=t}⟩ q (h.st.mono (.toks t) hz) (h.toks t) (e.trans (.toks t))
theorem snd_lit {c:Const} {k:Nat} (h:constOf v=some c):ESnd F (.lit v) (.Constant c k pos):=fun q hr k=>by
 cases v<;>cases h
 ·exact wpAny_Constant_none (hr.done k .refl q .none)
 ·exact wpAny_Constant_bool (hr.done k .refl q (.bool _))
 ·exact wpAny_Constant_int (hr.done k .refl q (.int _ _))
 ·exact wpAny_Constant_str (hr.done k .refl q (.str _ _))
theorem plain_of {x:Str} (h:plainName x=true):(x==("__debug__":Str))=false∧(x==("__classdict__":Str))=false:=by
 simp only [plainName,Bool.and_eq_true,bne_iff_ne,ne_eq] at h
 exact⟨beq_eq_false_iff_ne.mpr h.1,beq_eq_false_iff_ne.mpr h.2⟩
theorem load_at (hr:Here F ρ T w) {i:Nat} {x:Str} (hv:(ρ[i]?).join=some v) (hn:F.names[i]?=some x) (hp:plainName x=true) (k:∀ z,VR w v z→R z w.s):wpAny W.M F.A (loadName F.env x) R noE w.s:=by
 obtain⟨m,ns,ha⟩:=hr.f
 obtain⟨y,z,h1,h2,h3⟩:=ha hv
 rw [hn] at h1;cases h1
 cases h3 with
 | loc a b=>exact wpAny_loadName_local F.fn a ns b (k z h2)
 | cell a b c d=>exact a.elim (fun a=>wpAny_loadName_cell F.fn a b c (k z h2)) fun a=>wpAny_loadName_free F.fn a b c (k z h2) (plain_of hp).2
theorem snd_loc {i:Nat} {x:Str} (h:readsAs F.names F.sc i x=true):ESnd F (.loc i) (.Name x pos):=fun q hr k=>by
 simp only [readsAs,Bool.and_eq_true,beq_iff_eq] at h
 exact GetM.on q fun v hv q=>wpAny_Name (load_at hr hv h.1.1 h.1.2 fun z hz=>hr.done k .refl q hz) (plain_of h.1.2).1
theorem bits_small {a:Int} (h:a.natAbs<2 ^ 60):Builtin.Int.intBits a≤64:=by
 have e:(2:Nat) ^ 60=1152921504606846976:=by decide
 rw [e] at h
 refine PySem.intBits_le_64 ?_ ?_<;>omega
theorem bin_int {op:Bop} {i j k:Int} {t u:Tok} {A:Around} {s:Shared} (hi:intOp op i j=some k) (h:∀ t tk,R (.int k t) {s with toks:=tk}) :
  wpAny W.M A (binaryOp (opOf op) (.int i t) (.int j u)) R noE s:=by
 cases op with
 | add=>cases hi;exact add_int (h _ _)
 | sub=>cases hi;exact sub_int (h _ _)
 | mul =>
  by_cases hb:i.natAbs<2 ^ 60
  ·rw [intOp,if_pos hb] at hi;cases hi;exact mul_int (h _ _) (IntMulOk.of_left (bits_small hb))
  ·rw [intOp,if_neg hb] at hi;cases hi
 | fdiv =>
  by_cases hb:j > 0∧j<1000000000
  ·rw [intOp,if_pos hb] at hi;cases hi;exact floordiv_int (by omega) (h _ _) (.inl (PyProof.noPylong_small (by omega)))
  ·rw [intOp,if_neg hb] at hi;cases hi
 | mod =>
  by_cases hb:j > 0
  ·rw [intOp,if_pos hb] at hi;cases hi;exact mod_int' (by omega) (h _ _)
  ·rw [intOp,if_neg hb] at hi;cases hi
 | shr =>
  by_cases hb:0≤j∧j<64
  ·rw [intOp,if_pos hb] at hi;cases hi;exact rshift_int hb.1 (h _ _)
  ·rw [intOp,if_neg hb] at hi;cases hi
theorem snd_bin {op:Bop} (hp:ESnd F p l) (hq:ESnd F q r):ESnd F (.bin op p q) (.BinOp l (opOf op) r pos):=fun {ρ T w Q R} hw hr k =>
 wpAny_BinOp (hp hw hr fun x T₁ xv w₁ q₁ r₁ h₁ e₁=>hq q₁ h₁ fun y T₂ yv w₂ q₂ r₂ h₂ e₂=>by
  have r₁:=h₁.st.mono e₂ r₁
  have q₂:BinY (kV Q T₂) op x y:=q₂
  cases q₂ with
  | int e q=>exact VR.on_int r₁ fun _=>VR.on_int r₂ fun _=>bin_int e fun t tk=>h₂.done k (e₁.trans e₂) q (.int _ t)
  | str e q=>exact VR.on_str r₁ fun _=>VR.on_str r₂ fun _=>PyProof.Rows.add_str (fun _ _=>h₂.done k (e₁.trans e₂) q (.str _ _)) (by rw [sizeLine_eq];omega))
theorem snd_neg (hp:ESnd F p l):ESnd F (.neg p) (.UnaryOp .USub l pos):=fun hw hr k =>
 wpAny_UnaryOp (hp hw hr fun x T₁ xv w₁ q₁ r₁ h₁ e₁=>IntM.on q₁ r₁ fun i t q=>PyProof.Rows.neg_int (h₁.done k e₁ q (.int _ _)))
theorem snd_not (hp:ESnd F p l):ESnd F (.not p) (.UnaryOp .Not l pos):=fun hw hr k =>
 wpAny_UnaryOp (hp hw hr fun x T₁ xv w₁ q₁ r₁ h₁ e₁=>BoolM.on q₁ r₁ fun b q=>PyProof.Rows.not_of (wpAny_truthy_bool (h₁.done k e₁ q (.bool _))))
theorem snd_glob {i:Nat} {x:Str} (hx:tab.gnames[i]?=some x) (hg:globalAs F.sc x=true):ESnd F (.glob i) (.Name x pos):=fun q hr k=>by
 simp only [globalAs,Bool.and_eq_true,kindIn,beq_iff_eq] at hg
 refine GetM.on q fun v hv q=>?_
 obtain⟨r,hm,hvr⟩:=W.gval _ _ _ hv hx
 refine wpAny_Name ?_ (plain_of hg.1).1
 rw [loadName_read F.fn (F.glob _ hg.2)]
 exact loadGlobal_global (by rw [F.gl];exact W.gns.keeps fun _ _=>hr.st.base) hm (hr.done k .refl q (hvr _ (W.inK.keeps fun _ _=>hr.st.base)))
theorem Here.newS (h:Here F ρ T w) {P:Nat→TH→Prop} {kk:K} {o:O} {pp:Addr×Addr} {s:Shared} {G:Prop} (q:NewY T kk o P) (k':∀ {b o},w.s.heap.get? b=some o→s.heap.get? b=some o) (h1:w.s.heap.get? pp.1=none) (h2:w.s.heap.get? pp.2=none)
  (hg:s.gens=w.s.gens) (hos:s.os=w.s.os) (ho:(∀ {l xs},VRs w l xs→VRs ⟨w.ads++[pp],s⟩ l xs)→OR W ⟨w.ads++[pp],s⟩ o pp)
  (c:∀ i T',P i T'→T'[i]?=some (kk,o)→(w.ads++[pp])[i]?=some pp→Here F ρ T' ⟨w.ads++[pp],s⟩→Le noA w ⟨w.ads++[pp],s⟩→G):G:=by
 have z:=h.st.alloc (k:=kk) k' h1 h2 hg hos ho
 exact c T.length (T++[(kk,o)]) (q.ex _ _ (List.getElem?_eq_none (Nat.le_refl _)) get_end ⟨fun h _=>get_old h,fun h=>⟨_,get_old h⟩⟩) get_end (h.st.len▸get_end) (h.ext z.1 z.2) z.2
theorem Here.new (h:Here F ρ T w) (k:∀ v T' x w',Q v T'→VR w' v x→Here F ρ T' w'→Le noA w₀ w'→R x w'.s) (e:Le noA w₀ w) {kk:K} {o:O} {pp:Addr×Addr} {s:Shared} (q:NewY T kk o (kNew Q)) (k':∀ {b o},w.s.heap.get? b=some o→s.heap.get? b=some o) (h1:w.s.heap.get? pp.1=none) (h2:w.s.heap.get? pp.2=none)
  (hg:s.gens=w.s.gens) (hos:s.os=w.s.os) (ho:(∀ {l xs},VRs w l xs→VRs ⟨w.ads++[pp],s⟩ l xs)→OR W ⟨w.ads++[pp],s⟩ o pp):R (.ref pp.1) s :=
 h.newS q k' h1 h2 hg hos ho fun i T' q _ hi h' e'=>k _ T' _ ⟨w.ads++[pp],s⟩ q (.obj hi) h' (e.trans e')
theorem get_size (h:Heap):h.get? h.objs.size=none:=by
 cases q:h.get? h.objs.size with
 | none=>rfl
 | some o=>exact absurd (Heap.lt_size q) (Nat.lt_irrefl _)
theorem Here.push (h:Here F ρ T w) (k:∀ v T' x w',Q v T'→VR w' v x→Here F ρ T' w'→Le noA w₀ w'→R x w'.s) (e:Le noA w₀ w) {kk:K} {o:O} {ob:Obj} (q:NewY T kk o (kNew Q))
  (ho:(∀ {l xs},VRs w l xs→VRs ⟨w.ads++[(w.s.heap.objs.size,w.s.heap.objs.size)],{w.s with heap:=w.s.heap.push ob}⟩ l xs)→OR W ⟨w.ads++[(w.s.heap.objs.size,w.s.heap.objs.size)],{w.s with heap:=w.s.heap.push ob}⟩ o (w.s.heap.objs.size,w.s.heap.objs.size)) :
  R (.ref w.s.heap.objs.size) {w.s with heap:=w.s.heap.push ob}:=h.new (s:={w.s with heap:=w.s.heap.push ob}) k e q (fun e=>Heap.get?_push_of_some _ e) (get_size _) (get_size _) rfl rfl ho
noncomputable def TrSnd (F:Frame W n) (p:E) (l:Expr):Prop:=∀ {ρ:Rho} {T:TH} {w:Wd} {P:Bool→TH→Prop} {R:Bool→Shared→Prop},EV (CN n) ρ p T (kBM P)→Here F ρ T w →
 (∀ b T' w',P b T'→Here F ρ T' w'→Le noA w w'→R b w'.s)→wpAny W.M F.A (isTrue l F.env (eval l F.env)) R noE w.s
structure Both (F:Frame W n) (p:E) (l:Expr):Prop where
 v:ESnd F p l
 t:TrSnd F p l
theorem bothv (hp:ESnd F p l) (he:∀ env whole,isTrue l env whole=(do let v ←whole;standAt l.pos;holding [v] (truthy v))):Both F p l :=
 ⟨hp,fun hw hr k=>wpAny_isTrue_value (hp hw hr fun x T₁ xv w₁ q₁ r₁ h₁ e₁=>BoolM.on q₁ r₁ fun b q=>wpAny_truthy_bool (k b T₁ w₁ q h₁ e₁)) (he _ _)⟩
theorem both_not (hp:Both F p l):Both F (.not p) (.UnaryOp .Not l pos) :=
 ⟨snd_not hp.v,fun hw hr k=>wpAny_isTrue_Not (hp.t (P:=fun b T=>BoolM (.bool (!b)) fun b=>_) hw hr fun b T' w' q h e=>k _ T' w' q h e)⟩
end
end Mine
set_option genInjectivity false
namespace Mine
open PySem PySem.W PySem.Calls PyProof.Rows PySem.Spec
section
variable {W:Setup} {n:Nat} {F:Frame W n} {ρ:Rho} {T T':TH} {w w' w₀:Wd} {Q:PE'} {R:Value→Shared→Prop} {p q:E} {l r:Expr} {pos:Pos} {v x y:V} {z zv xv yv:Value}
noncomputable def EachB (F:Frame W n):List E→List Expr→Prop
 | [],l=>l=[]
 | p::ps,l=>∃ e es,l=e::es∧Both F p e∧EachB F ps es
theorem bo_val {b:Bool} {ps:List E}:∀ {es:List Expr},EachB F ps es→∀ {T w R},EB (CN n) ρ b ps T Q→Here F ρ T w→(∀ v T' x w',Q v T'→VR w' v x→Here F ρ T' w'→Le noA w w'→R x w'.s)→wpAny W.M F.A (boolOp pos (boOf b) (evalEach es F.env)) R noE w.s:=by
 induction ps with
 | nil=>intro es _ T w R q;exact q.elim
 | cons p ps ih =>
  rintro _ ⟨e,es,rfl,hp,hs⟩ T w R q hr k
  cases ps with
  | nil =>
   cases hs
   exact hp.v q hr fun x T₁ xv w₁ q₁ r₁ h₁ e₁=>BoolM.on q₁ r₁ fun c q=>k _ _ _ _ q (.bool c) h₁ e₁
  | cons p2 ps =>
   have ih:=@ih es hs
   obtain⟨e2,es,rfl,-⟩:=hs
   refine wpAny_bind (hp.v q hr fun x T₁ xv w₁ q₁ r₁ h₁ e₁=>BoolM.on q₁ r₁ fun c q=>wpAny_bind (wpAny_standAt (wpAny_bind (wpAny_holding (wpAny_truthy_bool ?_)))))
   cases b<;>cases c
   ·exact ih (q.1 rfl) h₁ fun v T' x w' q r h e=>k v T' x w' q r h (e₁.trans e)
   ·exact wpAny_pure (k _ _ _ _ (q.2 rfl) (.bool _) h₁ e₁)
   ·exact wpAny_pure (k _ _ _ _ (q.2 rfl) (.bool _) h₁ e₁)
   ·exact ih (q.1 rfl) h₁ fun v T' x w' q r h e=>k v T' x w' q r h (e₁.trans e)
theorem bo_tr {b:Bool} {P:Bool→TH→Prop} {ps:List E}:∀ {es:List Expr},EachB F ps es→∀ {T w} {R:Bool→Shared→Prop},EB (CN n) ρ b ps T (kBM P)→Here F ρ T w→(∀ b T' w',P b T'→Here F ρ T' w'→Le noA w w'→R b w'.s)→wpAny W.M F.A (allTrue (boOf b) es F.env) R noE w.s:=by
 induction ps with
 | nil=>intro es _ T w R q;exact q.elim
 | cons p ps ih =>
  rintro _ ⟨e,es,rfl,hp,hs⟩ T w R q hr k
  cases ps with
  | nil =>
   cases hs
   cases b
   ·exact wpAny_allTrue_Or_cons (hp.t (P:=P) q hr fun c T₁ w₁ q h₁ e₁=>by
     cases c
     ·exact wpAny_allTrue_Or_nil (k _ T₁ w₁ q h₁ e₁)
     ·exact k _ T₁ w₁ q h₁ e₁)
   ·exact wpAny_allTrue_And_cons (hp.t (P:=P) q hr fun c T₁ w₁ q h₁ e₁=>by
     cases c
     ·exact k _ T₁ w₁ q h₁ e₁
     ·exact wpAny_allTrue_And_nil (k _ T₁ w₁ q h₁ e₁))
  | cons p2 ps =>
   have ih:=@ih es hs
   cases b
   ·refine wpAny_allTrue_Or_cons (hp.t (P:=kBo1 (kBM P) false _) q hr fun c T₁ w₁ q h₁ e₁=>?_)
    cases c
    ·exact ih (q.1 rfl) h₁ fun v T' w' q h e=>k v T' w' q h (e₁.trans e)
    ·exact k _ _ _ (q.2 rfl) h₁ e₁
   ·refine wpAny_allTrue_And_cons (hp.t (P:=kBo1 (kBM P) true _) q hr fun c T₁ w₁ q h₁ e₁=>?_)
    cases c
    ·exact k _ _ _ (q.2 rfl) h₁ e₁
    ·exact ih (q.1 rfl) h₁ fun v T' w' q h e=>k v T' w' q h (e₁.trans e)
theorem both_bo {b:Bool} {ps:List E} {es:List Expr} (h:EachB F ps es):Both F (.bo b ps) (.BoolOp (boOf b) es pos) :=
 ⟨fun hw hr k=>bo_val (pos:=pos) h hw hr k,fun hw hr k=>wpAny_isTrue_BoolOp (bo_tr h hw hr k)⟩
structure Rd (h:Heap) (k:Nat) (x:Value) (d:PyData):Prop where
 ex:∃ as,Reads h x d as
 lay:d.canLay0=true
 dep:d.depth≤k
structure Rds (h:Heap) (k:Nat) (x:List Value) (d:List PyData):Prop where
 ex:∃ as,ReadsAll h x d as
 lay:PyData.canLayAll0 d=true
 dep:PyData.depthAll d≤k
theorem rd_all {f:V→Option PyData} {k:Nat} (ih:∀ {v d x},f v=some d→VR w v x→Rd w.s.heap k x d) {l:List V} {xs:List Value} (h:VRs w l xs):∀ {ds:List PyData},l.mapM f=some ds→Rds w.s.heap k xs ds :=
 h.ind (P:=fun l xs=>∀ {ds:List PyData},l.mapM f=some ds→Rds w.s.heap k xs ds) (fun e=>by cases e;exact⟨⟨_,.nil⟩,rfl,Nat.zero_le _⟩) fun h1 _ ih' ds e=>by
  rw [List.mapM_cons] at e
  obtain⟨y,e1,e⟩:=Option.bind_eq_some_iff.mp e
  obtain⟨r,e2,e⟩:=Option.bind_eq_some_iff.mp e
  cases e
  have a:=ih e1 h1
  have b:=ih' e2
  exact⟨⟨_,.cons a.ex.choose_spec b.ex.choose_spec⟩,Bool.and_eq_true_iff.mpr ⟨a.lay,b.lay⟩,Nat.max_le.mpr ⟨a.dep,b.dep⟩⟩
theorem rd_one (S:St W T w) {f:List V→Option (List PyData)} {k:Nat} (ih:∀ {l ds xs},f l=some ds→VRs w l xs→Rds w.s.heap k xs ds) {d:PyData} (e:dataS f T v=some d) (h:VR w v z):Rd w.s.heap (k+1) z d:=by
 cases h with
 | none=>cases e;exact⟨⟨_,.none⟩,rfl,Nat.zero_le _⟩
 | bool b=>cases e;exact⟨⟨_,.bool _⟩,rfl,Nat.zero_le _⟩
 | int i t=>cases e;exact⟨⟨_,.int _ _⟩,rfl,Nat.zero_le _⟩
 | str s t =>
  by_cases hs:PyData.strOk s=true
  ·rw [dataS,if_pos hs] at e;cases e;exact⟨⟨_,.str _ _⟩,hs,Nat.zero_le _⟩
  ·rw [dataS,if_neg hs] at e;cases e
 | tup ho hc hd hr =>
  obtain⟨ds,e1,rfl⟩:=Option.map_eq_some_iff.mp e
  have a:=ih e1 hr
  exact⟨⟨_,.tuple ho hc hd a.ex.choose_spec⟩,a.lay,Nat.succ_le_succ a.dep⟩
 | @obj i p hi =>
  unfold dataS at e
  dsimp only at e
  split at e
  ·rename_i kk l hl
   obtain⟨ds,e1,rfl⟩:=Option.map_eq_some_iff.mp e
   refine St.on_list S hl hi fun _ _ _ _ ha hr=>?_
   have a:=ih e1 hr
   exact⟨⟨_,.list ha rfl rfl a.ex.choose_spec⟩,a.lay,Nat.succ_le_succ a.dep⟩
  ·cases e
 | frz=>cases e
theorem rd_of (S:St W T w):∀ {k:Nat} {v:V} {d:PyData} {x:Value},dataV k T v=some d→VR w v x→Rd w.s.heap (k+1) x d:=by
 intro k
 induction k with
 | zero=>exact fun e h=>rd_one S (fun e=>by cases e) e h
 | succ k ih=>exact fun e h=>rd_one S (fun e h=>rd_all ih h e) e h
theorem DR.look {K':Type} [DecidableEq K'] {knd:PySem.KeyKind W.prog W.w K'} {l:List (K'×V)} {a:Addr} {kvs:List (K'×Value)} (D:DR knd w l a kvs) (k:K') :
  (dget l k=none∧valueAt kvs k=none)∨∃ v x,dget l k=some v∧valueAt kvs k=some x∧VR w v x:=by
 obtain⟨-,hk,hv⟩:=D
 induction l generalizing kvs with
 | nil =>
  cases kvs with
  | nil=>exact .inl ⟨rfl,rfl⟩
  | cons _ _=>cases hk
 | cons p l ih =>
  cases kvs with
  | nil=>cases hk
  | cons kv kvs =>
   obtain⟨h1,h2⟩:=List.cons.inj hk
   have h1:kv.1=p.1:=h1
   cases hv with
   | cons a b =>
    unfold valueAt dget
    rw [List.find?_cons,h1]
    by_cases e:p.1=k
    ·rw [if_pos e,decide_eq_true e];exact .inr ⟨_,_,rfl,rfl,a⟩
    ·rw [if_neg e,decide_eq_false e];exact ih h2 b
theorem St.not_mods (S:St W T w) {i:Nat} {p:Addr×Addr} (e:w.ads[i]?=some p):(p.1==sysModules)=false :=
 beq_eq_false_iff_ne.mpr fun q=>absurd_get W.low.choose_spec (q▸S.off (foot_of e).1)
theorem cmp_int {op:Cop} {i j:Int} {t u:Tok} {b:Bool} {A:Around} {s:Shared} (e:cmpI op i j=some b) (h:∀ c,c=b→R (.bool c) s):wpAny W.M A (compareOp (copOf op) (.int i t) (.int j u)) R noE s:=by
 cases op<;>cases e
 ·exact PySem.P.eq_int (h _ rfl)
 ·exact PySem.P.ne_int (h _ rfl)
 ·exact PySem.P.lt_int (h _ rfl)
 ·exact PySem.P.le_int (h _ rfl)
 ·exact PySem.P.gt_int (h _ rfl)
 ·exact PySem.P.ge_int (h _ rfl)
theorem eqOp_or {op:Cop} {a b:Bool} (e:eqOp op a=some b):op=.eq∧a=b∨op=.ne∧(!a)=b:=by
 cases op<;>cases e
 ·exact .inl ⟨rfl,rfl⟩
 ·exact .inr ⟨rfl,rfl⟩
theorem memOp_or {op:Cop} {a b:Bool} (e:memOp op a=some b):op=.mem∧a=b∨op=.nmem∧(!a)=b:=by
 cases op<;>cases e
 ·exact .inl ⟨rfl,rfl⟩
 ·exact .inr ⟨rfl,rfl⟩
theorem isOp_or {op:Cop} {a b:Bool} (e:isOp op a=some b):op=.isNone∧a=b∨op=.isNot∧(!a)=b:=by
 cases op<;>cases e
 ·exact .inl ⟨rfl,rfl⟩
 ·exact .inr ⟨rfl,rfl⟩
theorem VR.isNone (h:VR w v z):(z==Value.none)=isNoneV v:=by cases h<;>rfl
theorem cmp_core {op:Cop} {Q:Bool→Prop} (hn:isIs op=true→yv=.none) (hr:Here F ρ T w) (q:CmpY T Q op x y) (hx:VR w x xv) (hy:VR w y yv) (h:∀ c tk,Q c→R (.bool c) {w.s with toks:=tk}) :
  wpAny W.M F.A (compareOp (copOf op) xv yv) R noE w.s:=by
 have hu:=F.units
 cases q with
 | int e q=>exact VR.on_int hx fun _=>VR.on_int hy fun _=>cmp_int e fun c hc=>h c _ (hc▸q)
 | str e q =>
  refine VR.on_str hx fun _=>VR.on_str hy fun _=>?_
  rcases eqOp_or e with ⟨rfl,rfl⟩|⟨rfl,rfl⟩
  ·exact PyProof.Rows.eq_str (h _ _ q)
  ·exact PyProof.Rows.ne_str (h _ _ q)
 | isn e q =>
  rw [←hx.isNone] at e
  rcases isOp_or e with ⟨rfl,rfl⟩|⟨rfl,rfl⟩
  ·rw [hn rfl];exact PySem.is_none (h _ _ q)
  ·rw [hn rfl];exact PySem.isNot_none (h _ _ q)
 | data e1 e2 e q =>
  have a:=rd_of hr.st e1 hx
  have b:=rd_of hr.st e2 hy
  have ha:_≤9:=a.dep
  rcases eqOp_or e with ⟨rfl,rfl⟩|⟨rfl,rfl⟩
  ·exact PySem.SeqAt.compareEq_reads a.ex.choose_spec b.ex.choose_spec a.lay b.lay (by lia) (h _ w.s.toks q)
  ·exact PySem.SeqAt.compareNe_reads a.ex.choose_spec b.ex.choose_spec a.lay b.lay (by lia) (h _ w.s.toks q)
 | memD hl e q =>
  refine VR.on_int hx fun _=>VR.on_obj hy fun _ hi=>St.on_di hr.st hl hi fun _ _ hi D=>?_
  have nm:=hr.st.not_mods hi
  have hb:∀ i,(valueAt _ i).isSome=(dget _ i).isSome:=fun i=>by rcases D.look i with ⟨q1,q2⟩|⟨_,_,q1,q2,_⟩<;>rw [q1,q2]<;>rfl
  rcases memOp_or e with ⟨rfl,rfl⟩|⟨rfl,rfl⟩
  ·exact wpAny_in_of (intKind_is _ _ _ _) nm D.d.mapOf (h _ _ (hb _▸q))
  ·exact wpAny_notIn_of (intKind_is _ _ _ _) nm D.d.mapOf (h _ _ (hb _▸q))
 | memL e1 e2 e q =>
  have a:=rd_of hr.st e1 hx
  have b:=rd_of hr.st e2 hy
  have hb:PyData.depthAll _+1≤9:=b.dep
  cases hy with
  | obj hi =>
   rcases memOp_or e with ⟨rfl,rfl⟩|⟨rfl,rfl⟩
   ·exact PySem.SeqAt.in_list_reads b.ex.choose_spec a.ex.choose_spec b.lay a.lay (by lia) (h _ w.s.toks q)
   ·exact PySem.SeqAt.notIn_list_reads b.ex.choose_spec a.ex.choose_spec b.lay a.lay (by lia) (h _ w.s.toks q)
theorem behind_of {o:CmpOp} (h:notSet r=true):behindInMarks o r=false:=by
 cases r<;>first|rfl|cases h
theorem both_cmp {op:Cop} (hn:isIs op=true→q=.lit .none) (hs:notSet r=true) (hp:ESnd F p l) (hq:ESnd F q r):Both F (.cmp op p q) (.Compare l [copOf op] [r] pos):=by
 have go:∀ {ρ:Rho} {T:TH} {w:Wd} {Q:PE'} {R:Value→Shared→Prop},EV (CN n) ρ (.cmp op p q) T Q→Here F ρ T w→(∀ b T' w',Q (.bool b) T'→Here F ρ T' w'→Le noA w w'→R (.bool b) w'.s) →
   wpAny W.M F.A (eval l F.env) (fun xv s=>wpAny W.M F.A (eval r F.env) (fun yv s=>wpAny W.M F.A (compareOp (copOf op) xv yv) R noE s) noE s) noE w.s:=fun {ρ T w Q R} hw hr k =>
  hp hw hr fun x T₁ xv w₁ q₁ r₁ h₁ e₁=>by
   have step:∀ {Q':PE'},EV (CN n) ρ q T₁ Q'→(∀ y T₂ yv w₂,(isIs op=true→yv=.none)→Q' y T₂→VR w₂ y yv→Here F ρ T₂ w₂→Le noA w₁ w₂→wpAny W.M F.A (compareOp (copOf op) xv yv) R noE w₂.s)→wpAny W.M F.A (eval r F.env) (fun yv s=>wpAny W.M F.A (compareOp (copOf op) xv yv) R noE s) noE w₁.s:=fun {Q'} q₁ k=>by
    cases hi:isIs op with
    | false=>exact hq q₁ h₁ fun y T₂ yv w₂ q₂ r₂ h₂ e₂=>k y T₂ yv w₂ (fun e=>nomatch hi.symm.trans e) q₂ r₂ h₂ e₂
    | true =>
     cases hn hi
     exact hq (Q:=fun v T=>v=.none∧Q' .none T) ⟨rfl,q₁⟩ h₁ fun y T₂ yv w₂ q₂ r₂ h₂ e₂=>by
      obtain⟨rfl,q₂⟩:=q₂
      exact k _ T₂ yv w₂ (fun _=>by cases r₂;rfl) q₂ r₂ h₂ e₂
   exact step q₁ fun y T₂ yv w₂ hy q₂ r₂ h₂ e₂=>cmp_core (Q:=kB Q T₂) hy h₂ q₂ (h₁.st.mono e₂ r₁) r₂ fun c tk q=>k c T₂ ⟨w₂.ads,{w₂.s with toks:=tk}⟩ q (h₂.toks tk) ((e₁.trans e₂).trans (.toks tk))
 exact⟨fun hw hr k=>wpAny_Compare1 (go hw hr fun b T' w' q h e=>k _ T' _ w' q (.bool b) h e) (behind_of hs),
  fun {ρ T w P R} hw hr k=>wpAny_isTrue_Compare1 (go (Q:=kBM P) (R:=fun v s=>wpAny W.M F.A (truthy v) R noE s) hw hr fun b T' w' q h e=>wpAny_truthy_bool (k b T' w' q h e)) (behind_of hs)⟩
end
end Mine
set_option genInjectivity false
namespace Mine
open PySem PySem.W PySem.Calls PyProof.Rows PySem.Spec
@[elab_as_elim] theorem ListY.on {W:Setup} {T:TH} {w:Wd} {o:Nat} {P:K→List V→Prop} {p:Addr×Addr} {G:Addr→Prop} (S:St W T w) (hi:w.ads[o]?=some p) (q:ListY T o P) (k:∀ kk l vs m,T[o]?=some (kk,.list l)→w.ads[o]?=some (p.1,p.1)→w.s.heap.get? p.1=some (listOf vs m)→VRs w l vs.toList→P kk l→G p.1):G p.1:=by
 obtain⟨hl,q⟩:=q
 cases S.obj hl hi with
 | list ha hv=>exact k _ _ _ _ hl hi ha hv q
@[elab_as_elim] theorem DiY.on {W:Setup} {T:TH} {w:Wd} {o:Nat} {P:K→List (Int×V)→Prop} {p:Addr×Addr} {G:Addr→Prop} (S:St W T w) (hi:w.ads[o]?=some p) (q:DiY T o P) (k:∀ kk l kvs,T[o]?=some (kk,.di l)→w.ads[o]?=some (p.1,p.1)→DR W.ik w l p.1 kvs→P kk l→G p.1):G p.1:=by
 obtain⟨hl,q⟩:=q
 cases S.obj hl hi with
 | di D=>exact k _ _ _ hl hi D q
theorem fit_le {m:Nat} (h:m≤limit):m≤sizeLine:=by unfold limit at h;rw [sizeLine_eq];omega
section
variable {W:Setup} {n:Nat} {F:Frame W n} {ρ:Rho} {T T':TH} {w w' w₀:Wd} {Q:PE'} {R:Value→Shared→Prop} {p q:E} {l r:Expr} {pos:Pos} {v x y:V} {z zv xv yv:Value} {ps:List E} {es:List Expr}
theorem ess_nil:EsSnd F [] []:=fun q hr k=>spliced_nil (k [] _ [] _ rfl q .nil hr .refl)
theorem backTo_plain {env:Env} {e:Expr} {rs:List Expr} (h:notStar e=true):backTo pos (starEach (e::rs) env)=(false,eval e env)::backTo pos (starEach rs env):=by
 cases e<;>first|rfl|cases h
theorem ess_cons (h:notStar l=true) (hp:ESnd F p l) (hps:EsSnd F ps es):EsSnd F (p::ps) (l::es):=fun {ρ T w Q R pos} hw hr k=>by
 rw [backTo_plain h]
 exact spliced_cons (hp hw hr fun x T₁ xv w₁ q₁ r₁ h₁ e₁=>hps q₁ h₁ fun vs T₂ xs w₂ hl q₂ r₂ h₂ e₂=>k (x::vs) T₂ (xv::xs) w₂ (congrArg (·+1) hl) q₂ (.cons (h₁.st.mono e₂ r₁) r₂) h₂ (e₁.trans e₂))
theorem Here.tuple (h:Here F ρ T w) {s:Shared} {a:Addr} {o:Obj} {vs:Array Value} {m:Nat} {xs:List V} (k:∀ v T' x w',Q v T'→VR w' v x→Here F ρ T' w'→Le noA w₀ w'→R x w'.s) (e:Le noA w₀ w) (q:Q (.tup xs) T)
  (kp:∀ {b o},w.s.heap.get? b=some o→s.heap.get? b=some o) (hg:s.gens=w.s.gens) (hos:s.os=w.s.os) (ho:s.heap.get? a=some o) (hc:o.cls=.type "tuple") (hd:o.data=.seq vs m) (hv:VRs w xs vs.toList):R (.ref a) s :=
 k _ T _ ⟨w.ads,s⟩ q (.tup ho hc hd ((h.st.mono2 (Le.kept kp hg hos) .none).2 hv)) (h.ext (h.st.kept kp hg hos) (Le.kept kp hg hos)) (e.trans (Le.kept kp hg hos))
theorem snd_tup {k:Nat} (hl:ps.length≤100) (hp:EsSnd F ps es):ESnd F (.tup ps) (.Tuple es k pos):=fun hw hr k =>
 wpAny_Tuple_spliced (hp hw hr fun xs T₁ xv w₁ hn q₁ r₁ h₁ e₁ =>
  ⟨by rw [sizeLine_eq,←r₁.length,hn];exact Nat.le_trans hl (by decide),h₁.tuple (s:={w₁.s with heap:=w₁.s.heap.push {cls:=.type "tuple",data:=.seq xv.toArray}}) k e₁ q₁ (fun e=>Heap.get?_push_of_some _ e) rfl rfl (Heap.get?_push_size _ rfl) rfl rfl r₁⟩)
theorem snd_list (hl:ps.length≤100) (hp:EsSnd F ps es):ESnd F (.list ps) (.List es pos):=fun ⟨kk,hw⟩ hr k =>
 PySem.wpAny_List_spliced (hp hw hr fun xs T₁ xv w₁ hn q₁ r₁ h₁ e₁ =>
  ⟨by rw [sizeLine_eq,←r₁.length,hn];exact Nat.le_trans hl (by decide),h₁.push k e₁ q₁ fun mon=>.list (n:=0) (Heap.get?_push_size _ rfl) (mon r₁)⟩)
theorem DictOf.new {K:Type} [DecidableEq K] (knd:PySem.KeyKind W.prog W.w K) (h:Heap):(h.push {cls:=.type "dict",data:=.dict #[]}).DictOf knd h.objs.size [] :=
 ⟨_,#[],0,Heap.get?_push_size _ rfl,⟨rfl,rfl,rfl⟩,rfl,fun _ he=>by simp at he,.nil,List.nodup_nil⟩
theorem snd_dict {d:DK}:ESnd F (.dict d) (.Dict [] [] pos):=fun ⟨kk,q⟩ hr k=>wpAny_Dict_empty (hr.push k .refl q fun _=>by
 cases d
 ·exact .di ⟨DictOf.new _ _,rfl,.nil⟩
 ·exact .ds ⟨DictOf.new _ _,rfl,.nil⟩
 ·exact .dt (xs:=[]) ⟨⟨_,#[],0,Heap.get?_push_size _ rfl,⟨rfl,rfl,rfl⟩,rfl,rfl,fun _ h=>(nomatch h),List.nodup_nil⟩,rfl,.nil,.nil⟩)
theorem at_get {xs:List V} {i:Int} {v:V} (h:at? xs i=some v):(0≤i∧i<1000000∧xs[i.toNat]?=some v)∨(i<0∧-(xs.length:Int)≤i∧-1000000≤i∧xs[(i+xs.length).toNat]?=some v):=by
 unfold at? at h
 by_cases h0:0≤i
 ·rw [if_pos h0] at h
  by_cases h1:i<1000000
  ·rw [if_pos h1] at h;exact .inl ⟨h0,h1,h⟩
  ·rw [if_neg h1] at h;cases h
 ·rw [if_neg h0] at h
  by_cases h1:-(xs.length:Int)≤i∧-1000000≤i
  ·rw [if_pos h1] at h;exact .inr ⟨Int.lt_of_not_ge h0,h1.1,h1.2,h⟩
  ·rw [if_neg h1] at h;cases h
theorem sub_plain {r:Expr} {o i:Value} (h:isSlice r=false):subscripted r false o i=operate [o,i] (getItem o i):=by
 cases r<;>first|rfl|cases h
theorem seq_ix {i:Int} {m k:Nat} (h:(0≤i∧k=i.toNat)∨(i<0∧-(m:Int)≤i∧k=(i+m).toNat)) (hk:k<m):seqIndex? i m=some k:=by
 unfold seqIndex?
 rcases h with ⟨h0,rfl⟩|⟨h0,h1,rfl⟩
 ·simp only [show ¬ i<0 by lia,if_false]
  rw [if_pos (by rw [Bool.and_eq_true];exact⟨decide_eq_true (by lia),decide_eq_true (by lia)⟩)]
 ·simp only [h0,if_true]
  rw [if_pos (by rw [Bool.and_eq_true];exact⟨decide_eq_true (by lia),decide_eq_true (by lia)⟩)]
theorem idx_core {A:Around} {slice:Expr} {Q:V→Prop} (hs:isSlice slice=false) (S:St W T w) (q:IdxY T Q x y) (hx:VR w x xv) (hy:VR w y yv) (h:∀ v zv tk,Q v→VR w v zv→R zv {w.s with toks:=tk}) :
  wpAny W.M A (subscriptTail l slice xv yv) R noE w.s:=by
 cases q with
 | @tup xs i v e q =>
  refine VR.on_int hy fun tok=>VR.on_tup hx fun t o vs n' ho hc hd hr=>?_
  have hlen:=hr.length
  have go:∀ k:Nat,xs[k]?=some v→(k<xs.length→seqIndex? i vs.toList.length=some k)→i<2 ^ 62→-(2 ^ 62)<i→wpAny W.M A (subscriptTail l slice (.ref t) (.int i tok)) R noE w.s:=fun k hg hk b1 b2=>by
   obtain⟨zv,hz,hzr⟩:=hr.get hg
   exact item_tupleT (l:=vs.toList) ⟨o,by simpa using ho,hc,n',by simpa using hd⟩ (by lia) (by lia) (j:=k) (hk (List.getElem?_eq_some_iff.mp hg).1) hz (h _ _ _ q hzr) (sub_plain hs)
  rcases at_get e with ⟨h0,h1,hg⟩|⟨h0,h1,h2,hg⟩
  ·exact go _ hg (fun hk=>seq_ix (.inl ⟨h0,rfl⟩) (hlen▸hk)) (by lia) (by lia)
  ·exact go _ hg (fun hk=>seq_ix (.inr ⟨h0,hlen▸h1,by rw [hlen]⟩) (hlen▸hk)) (by lia) (by lia)
 | list hl e q =>
  refine VR.on_int hy fun _=>VR.on_obj hx fun _ hi=>St.on_list S hl hi fun a vs n' _ ha hr=>?_
  have hL:w.s.heap.IsList a vs:=⟨_,ha,rfl,_,rfl⟩
  rcases at_get e with ⟨h0,h1,hg⟩|⟨h0,h1,h2,hg⟩
  ·obtain⟨zv,hz,hzr⟩:=hr.get hg
   exact tail_any hL.typeIs slot_list_getitem.lookup (wpAny_getItem_list hL h0 (by lia) (by simpa using hz) (h _ _ _ q hzr)) (sub_plain hs)
  ·obtain⟨zv,hz,hzr⟩:=hr.get hg
   rw [hr.length] at hz h1
   exact tail_any hL.typeIs slot_list_getitem.lookup (wpAny_getItem_list_neg hL h0 (by simpa using h1) (by lia) (by simpa using hz) (h _ _ _ q hzr)) (sub_plain hs)
 | @di _ _ _ i _ hl e q =>
  refine VR.on_int hy fun _=>VR.on_obj hx fun _ hi=>St.on_di S hl hi fun _ _ _ D=>?_
  rcases D.look i with ⟨q1,q2⟩|⟨v',x',q1,q2,q3⟩
  ·cases q1.symm.trans e
  ·obtain rfl:=Option.some.inj (q1.symm.trans e)
   exact tail_any D.d.mapOf.typeIs slot_dict_getitem.lookup (wpAny_getItem_of (intKind_is _ _ _ _) D.d.mapOf q2 (h _ _ _ q q3)) (sub_plain hs)
theorem snd_idx (hs:isSlice r=false) (hp:ESnd F p l) (hq:ESnd F q r):ESnd F (.idx p q) (.Subscript l r pos):=fun {ρ T w Q R} hw hr k =>
 Subscript_ (hp hw hr fun x T₁ xv w₁ q₁ r₁ h₁ e₁=>hq q₁ h₁ fun y T₂ yv w₂ q₂ r₂ h₂ e₂=>idx_core (Q:=kV Q T₂) hs h₂.st q₂ (h₁.st.mono e₂ r₁) r₂ fun v zv tk q hz=>h₂.done k (e₁.trans e₂) q hz)
end
end Mine
set_option genInjectivity false
namespace Mine
open PySem PySem.W PySem.Calls PyProof.Rows PySem.Spec
structure ClsOk (K:Frag) (C:Addr) (names:List Str):Prop where
 ga:findIn K (.ref C) "__getattribute__"=some (some (.builtin "object.__getattribute__"))
 gk:findIn K (.ref C) "__getattr__"=some none
 hd:hasDictIn K C=true
 sa:findIn K (.ref C) "__setattr__"=some (some (.builtin "object.__setattr__"))
 po:plainOver K C=true
 made:makesIn K C=true
 at_:∀ n∈names,findIn K (.ref C) n=some none
theorem ClsOk.of {K:Frag} {C:Addr} {names:List Str} (e:clsOk K C names=true):ClsOk K C names:=by
 simp only [clsOk,Bool.and_eq_true,beq_iff_eq,List.all_eq_true,attrOk] at e
 exact⟨(plainGet_of e.1.1.1.1.1).1,(plainGet_of e.1.1.1.1.1).2,e.1.1.1.1.2,e.1.1.1.2,e.1.1.2,e.1.2,e.2⟩
theorem look_of_ns {h:Heap} {dx:Addr} {m:Str→Option Value} (N:h.Ns dx m):∃ od,h.get? dx=some od∧∀ name,lookIn name od=some (m name):=by
 obtain⟨o,es,ep,ho,hd,hk,hf⟩:=N
 refine⟨o,ho,fun name=>?_⟩
 unfold lookIn
 rw [hd]
 dsimp only
 rw [←hf name]
 unfold nsFind findBy
 rw [←Array.find?_toList]
 have e:(fun e:DictEntry=>e.key.isStr name)=fun e=>e.key.isStr name:=rfl
 cases q:es.toList.find? (fun e=>e.key.isStr name) with
 | some e=>rfl
 | none =>
  dsimp only
  have:es.toList.any (·.refKey)=false:=by
   rw [List.any_eq_false]
   intro e he
   obtain⟨n,t,q⟩:=hk e (Array.mem_toList_iff.mp he)
   unfold DictEntry.refKey
   rw [q];simp
  rw [this];rfl
section
variable {prog:Program} {w:World} {A:Around} {E:Value→Shared→Prop} {s:Shared} {K:Frag} {C x dx:Addr} {m:Str→Option Value} {names:List Str} {name:Str} {v:Value}
theorem inst_at {h:Heap} (hx:h.get? x=some (instObj C dx)) (N:h.Ns dx m):∃ od,InstAt h x (instObj C dx) C (some od)∧∀ name,lookIn name od=some (m name):=by
 obtain⟨od,ho,hl⟩:=look_of_ns N
 exact⟨od,⟨hx,rfl,rfl,ho⟩,hl⟩
theorem get_attr {expr:Bool} {Q:Value→Shared→Prop} (X:K.In s.heap) (c:ClsOk K C names) (hx:s.heap.get? x=some (instObj C dx)) (N:s.heap.Ns dx m) (hn:name∈names) (hv:m name=some v) (hh:handedIn v=true)
  (h:Q v {s with toks:=s.toks+1}):wpAny (model prog w) A (getAttr (.ref x) name expr) Q E s:=by
 obtain⟨od,I,hl⟩:=inst_at hx N
 exact get_value X I c.ga (findObj_own c.hd (c.at_ name hn) rfl (by rw [hl,hv])) hh h
theorem get_meth {pl:Sem Bool} {Q:Value×List Value→Shared→Prop} {f:Addr} (X:K.In s.heap) (c:ClsOk K C names) (hx:s.heap.get? x=some (instObj C dx)) (N:s.heap.Ns dx m) (hf:findIn K (.ref C) name=some (some (.ref f)))
  (ht:isFn K (.ref f)=true) (hm:m name=none) (h:Q (.ref f,[.ref x]) s):wpAny (model prog w) A (getMethod (.ref x) name pl) Q E s:=by
 obtain⟨od,I,hl⟩:=inst_at hx N
 exact method_fn X I c.ga c.gk hf (beq_iff_eq.mp ht) (by show (lookIn name od).map _=_;rw [hl,hm];rfl) h
theorem set_attr {Q:Unit→Shared→Prop} {ns:List Str} (X:K.In s.heap) (c:ClsOk K C names) (hx:s.heap.get? x=some (instObj C dx)) (N:s.heap.Ns1 dx m) (hn:name∈names) (hw:Within m ns) (hl:ns.length≤900)
  (h:∀ h',h'.Ns1 dx (fun y=>if y=name then some v else m y)→Heap.SameBut dx s.heap h'→Q () {s with heap:=h',toks:=s.toks+2}):wpAny (model prog w) A (setAttr (.ref x) name v) Q E s:=by
 obtain⟨od,I,hlk⟩:=inst_at hx N.ns
 have ht:takerIn K C name=some none:=by unfold takerIn;rw [c.at_ name hn];rfl
 refine set_plain X I c.sa (osa_open (s:={s with toks:=s.toks+1}) X I c.po ht fun b=>?_)
 obtain⟨cd,hc,hd'⟩:=any_some c.hd
 dsimp only
 refine wpAny_bind (wpAny_pure (wpAny_bind (wpAny_bind (wpAny_loadPart hx (wpAny_bind (looks_clsIn X hc _ _ _ _ (fun _ _ e=>e) ?_))))))
 rw [hd']
 refine wpAny_pure (a:=some dx) (wpAny_bind (wpAny_pure (wpAny_bind ?_)))
 refine wpAny_nsSet1 N fun h' hn' hs'=>?_
 obtain⟨oD,esD,epD,hoD,hdD,hcD⟩:=hn'.count (hw.cons name v)
 refine wpAny_bind (wpAny_lookBehind hoD (by rw [hdD];exact pastItsLine_dict (Nat.le_trans hcD (by rw [List.length_cons,sizeLine_eq];omega))) ?_)
 exact wpAny_pure (h h' hn' hs')
end
noncomputable def tabOk:Bool:=tab.attrs.all (fun l=>decide l.Nodup&&decide (l.length≤800))&&decide (tab.attrs.length=13)&&decide (tab.cnames.length=13)&&decide tab.wks.Nodup&&decide (tab.wks.length=15)
theorem tab_ok:tabOk=true:=by decide +kernel
theorem attrs_ok (c:Nat):(attrsOf c).Nodup∧(attrsOf c).length≤800:=by
 have t:=tab_ok
 simp only [tabOk,Bool.and_eq_true,List.all_eq_true,decide_eq_true_eq] at t
 unfold attrsOf
 rw [List.getD_eq_getElem?_getD]
 cases q:tab.attrs[c]? with
 | none=>exact⟨List.nodup_nil,Nat.zero_le _⟩
 | some a=>exact t.1.1.1.1 a (List.mem_of_getElem? q)
theorem attrs_lt {c i:Nat} {nm:Str} (h:(attrsOf c)[i]?=some nm):c<tab.cnames.length:=by
 have t:=tab_ok
 simp only [tabOk,Bool.and_eq_true,decide_eq_true_eq] at t
 rw [t.1.1.2,←t.1.1.1.2]
 refine Nat.lt_of_not_le fun q=>?_
 unfold attrsOf at h
 rw [List.getD_eq_getElem?_getD,List.getElem?_eq_none q] at h;cases h
theorem wks_ok:tab.wks.Nodup∧tab.wks.length=15:=by
 have t:=tab_ok
 simp only [tabOk,Bool.and_eq_true,decide_eq_true_eq] at t
 exact⟨t.1.2,t.2⟩
theorem nodup_get {names:List Str} (hn:names.Nodup) {i j:Nat} {nm:Str} (h1:names[i]?=some nm) (h2:names[j]?=some nm):i=j:=by
 obtain⟨p1,q1⟩:=List.getElem?_eq_some_iff.mp h1
 obtain⟨p2,q2⟩:=List.getElem?_eq_some_iff.mp h2
 have hp:=List.pairwise_iff_getElem.mp hn
 rcases Nat.lt_trichotomy i j with h|h|h
 ·exact absurd (q1.trans q2.symm) (hp i j p1 p2 h)
 ·exact h
 ·exact absurd (q2.trans q1.symm) (hp j i p2 p1 h)
theorem lookup_zip {α:Type} {l:List Str} (hn:l.Nodup):∀ {vals:List α} {i:Nat} {nm:Str},l[i]?=some nm→(l.zip vals).lookup nm=vals[i]?:=by
 induction l with
 | nil=>intro vals i nm h;cases h
 | cons a l ih =>
  intro vals i nm h
  rw [List.nodup_cons] at hn
  cases vals with
  | nil=>rfl
  | cons b vals =>
   rw [List.zip_cons_cons,List.lookup_cons]
   cases i with
   | zero=>cases h;rw [beq_self_eq_true];rfl
   | succ i =>
    have hne:(nm==a)=false:=beq_eq_false_iff_ne.mpr fun e=>hn.1 (e▸List.mem_of_getElem? h)
    rw [hne];exact ih hn.2 h
theorem lookup_zip_none {α:Type} {l:List Str} {nm:Str} (h:nm∉l):∀ {vals:List α},(l.zip vals).lookup nm=none:=by
 induction l with
 | nil=>intro _;rfl
 | cons a l ih =>
  intro vals
  rw [List.mem_cons,not_or] at h
  cases vals with
  | nil=>rfl
  | cons b vals =>
   rw [List.zip_cons_cons,List.lookup_cons,beq_eq_false_iff_ne.mpr h.1]
   exact ih h.2
theorem handed {w:Wd} {v:V} {x:Value} (r:VR w v x):handedIn x=true:=by cases r<;>rfl
section
variable {W:Setup} {n:Nat} {F:Frame W n} {ρ:Rho} {T T':TH} {w w' w₀:Wd} {Q:PE'} {R:Value→Shared→Prop} {p q:E} {l r e e₂:Expr} {pos apos np:Pos} {v x y:V} {z zv xv yv:Value} {ps:List E} {es:List Expr}
theorem St.inK (S:St W T w):W.K.In w.s.heap:=W.inK.keeps fun _ _=>S.base
theorem fld_core {A:Around} {ex:Bool} {c i o:Nat} {nm:Str} {pp:Addr×Addr} {P:V→Prop} (S:St W T w) (hi:w.ads[o]?=some pp) (hn:(attrsOf c)[i]?=some nm) (q:InstY T o c fun fs=>GetM fs[i]? P) (h:∀ v zv,P v→VR w v zv→R zv {w.s with toks:=w.s.toks+1}) :
  wpAny W.M A (getAttr (.ref pp.1) nm ex) R noE w.s:=by
 obtain⟨hl,q⟩:=q
 cases S.obj hl hi with
 | inst ha hd hm hv hlen hne =>
  refine GetM.on q fun v e q=>?_
  obtain⟨zv,hz,hzr⟩:=hv.get e
  exact get_attr S.inK (.of (W.cok c (attrs_lt hn))) ha hd.ns (List.mem_of_getElem? hn) (by rw [hm,lookup_zip (attrs_ok c).1 hn];exact hz) (handed hzr) (h v zv q hzr)
theorem base_plain {nm:Str} {env:Env} (hb:plainBase l=true):attributeBase l nm env (eval l env)=eval l env:=by cases l<;>first|rfl|cases hb
theorem snd_attr {c i:Nat} {nm:Str} (hn:(attrsOf c)[i]?=some nm) (hb:plainBase l=true) (hp:ESnd F p l):ESnd F (.attr p c i) (.Attribute l nm pos):=fun hw hr k =>
 Attribute_any_ (hp hw hr fun x T₁ xv w₁ q₁ r₁ h₁ e₁=>ObjM.on q₁ r₁ fun o pp hi q=>fld_core h₁.st hi hn q fun v zv q hz=>h₁.done k e₁ q hz) (by rw [←base_plain (nm:=nm) (env:=F.env) hb];rfl)
theorem zip_keys {α:Type}:∀ {ks:List Str} {l:List α},l.length≤ks.length→(ks.zip l).map (·.1)=ks.take l.length∧(ks.zip l).map (·.2)=l:=by
 intro ks
 induction ks with
 | nil =>
  intro l h
  cases l with
  | nil=>exact⟨rfl,rfl⟩
  | cons b l=>cases h
 | cons a ks ih =>
  intro l h
  cases l with
  | nil=>exact⟨rfl,rfl⟩
  | cons b l =>
   have:=ih (Nat.le_of_succ_le_succ h)
   exact⟨congrArg (a::·) this.1,congrArg (b::·) this.2⟩
theorem dget_zip {ks:List Str} (hn:ks.Nodup):∀ {l:List V} {i:Nat} {nm:Str},ks[i]?=some nm→dget (ks.zip l) nm=l[i]?:=by
 induction ks with
 | nil=>intro l i nm h;cases h
 | cons a ks ih =>
  intro l i nm h
  rw [List.nodup_cons] at hn
  cases l with
  | nil=>rfl
  | cons b l =>
   show (if a=nm then some b else dget (ks.zip l) nm)=_
   cases i with
   | zero=>cases h;exact if_pos rfl
   | succ i=>rw [if_neg fun (e:a=nm)=>hn.1 (e▸List.mem_of_getElem? h)];exact ih hn.2 h
theorem dput_zip {ks:List Str} (hn:ks.Nodup) {v:V}:∀ {l:List V} {i:Nat} {nm:Str},ks[i]?=some nm→i≤l.length→dput (ks.zip l) nm v=ks.zip (putAt l i v):=by
 induction ks with
 | nil=>intro l i nm h;cases h
 | cons a ks ih =>
  intro l i nm h hi
  rw [List.nodup_cons] at hn
  cases l with
  | nil =>
   cases Nat.le_zero.mp hi
   cases h
   show [(a,v)]=(a,v)::ks.zip []
   rw [List.zip_nil_right]
  | cons b l =>
   show (if a=nm then (a,v)::ks.zip l else (a,b)::dput (ks.zip l) nm v)=_
   cases i with
   | zero=>cases h;exact if_pos rfl
   | succ i=>rw [if_neg fun (e:a=nm)=>hn.1 (e▸List.mem_of_getElem? h),ih hn.2 h (Nat.le_of_succ_le_succ hi)];rfl
theorem putAt_eq {v:V}:∀ {l:List V} {i:Nat},i≤l.length→putAt l i v=if i<l.length then l.set i v else l++[v]
 | [],_,_=>rfl
 | _::_,0,_=>rfl
 | a::l,i+1,h=>by
  show a::putAt l i v=if i+1<l.length+1 then a::l.set i v else a::(l++[v])
  rw [putAt_eq (Nat.le_of_succ_le_succ h)]
  by_cases q:i<l.length
  ·rw [if_pos q,if_pos (Nat.succ_lt_succ q)]
  ·rw [if_neg q,if_neg fun h=>q (Nat.lt_of_succ_lt_succ h)]
theorem putAt_length {v:V}:∀ {l:List V} {i:Nat},(putAt l i v).length≤l.length+1
 | [],_=>Nat.le_refl _
 | _::_,0=>Nat.le_succ _
 | _::_,_+1=>Nat.succ_le_succ putAt_length
theorem putAt_vrs {v:V} {z:Value} (hz:VR w v z):∀ {l:List V} {xs:List Value} {i:Nat},VRs w l xs→i≤l.length→∃ ys,VRs w (putAt l i v) ys∧∀ j:Nat,ys[j]?=if j=i then some z else xs[j]?:=by
 intro l
 induction l with
 | nil =>
  intro xs i h hi
  cases h
  cases Nat.le_zero.mp hi
  exact⟨[z],.cons hz .nil,fun j=>by cases j<;>rfl⟩
 | cons a l ih =>
  intro xs i h hi
  cases h with
  | cons h1 h2 =>
   cases i with
   | zero=>exact⟨_,.cons hz h2,fun j=>by cases j<;>rfl⟩
   | succ i =>
    obtain⟨ys,h3,h4⟩:=ih h2 (Nat.le_of_succ_le_succ hi)
    exact⟨_,.cons h1 h3,fun j=>by
     cases j with
     | zero=>rfl
     | succ j =>
      refine (h4 j).trans ?_
      by_cases e:j=i
      ·rw [if_pos e,if_pos (congrArg (·+1) e)]
      ·rw [if_neg e,if_neg fun q=>e (Nat.succ.inj q)];rfl⟩
theorem snd_wk {k kk:Nat} {nm:Str} {cp:Pos} (hn:tab.wks[k]?=some nm) (hp:ESnd F p l):ESnd F (.wk p k) (.Subscript l (.Constant (.str nm) kk cp) pos):=fun {ρ T w Q R} hw hr c =>
 Subscript_ (hp hw hr fun x T₁ xv w₁ q₁ r₁ h₁ e₁=>wpAny_Constant_str (ObjM.on q₁ r₁ fun o pp hi q=>by
  obtain⟨hl,q⟩:=q
  cases h₁.st.obj hl hi with
  | wd D hlen =>
   refine GetM.on q fun v e q=>?_
   rcases D.look nm with ⟨q1,q2⟩|⟨v',x',q1,q2,q3⟩
   ·rw [dget_zip wks_ok.1 hn,e] at q1;cases q1
   ·rw [dget_zip wks_ok.1 hn,e] at q1;cases q1
    exact tail_any (s:={w₁.s with toks:=w₁.s.toks+1}) D.d.mapOf.typeIs slot_dict_getitem.lookup (wpAny_getItem_of (strKind_is _ _ _ _) D.d.mapOf q2 (h₁.done c e₁ q q3)) (sub_plain rfl)))
end
end Mine
set_option genInjectivity false
namespace Mine
open PySem PySem.W PySem.Calls PyProof.Rows PySem.Spec
section
variable {W:Setup} {n:Nat} {F:Frame W n} {ρ:Rho} {T T':TH} {w w' w₀:Wd} {Q:PE'} {R:Value→Shared→Prop} {p q d:E} {l r e e₂:Expr} {pos apos np:Pos} {v x y:V} {z zv xv yv:Value} {ps:List E} {es:List Expr}
theorem Here.blt (hr:Here F ρ T w) {x:Str} {r:Value} (hg:globalAs F.sc x=true) (hm:W.mg x=none∧W.mb x=some r) (h:R r w.s):wpAny W.M F.A (eval (.Name x pos) F.env) R noE w.s:=by
 simp only [globalAs,Bool.and_eq_true,kindIn,beq_iff_eq] at hg
 refine wpAny_Name ?_ (plain_of hg.1).1
 rw [loadName_read F.fn (F.glob _ hg.2)]
 exact loadGlobal_builtin (by rw [F.gl];exact W.gns.keeps fun _ _=>hr.st.base) hm.1 (by rw [F.bl];exact W.bns.keeps fun _ _=>hr.st.base) hm.2 h
theorem trees1 {env:Env} (he:notStar e=true):backTo pos (starEach [e] env)=[(false,eval e env)]:=backTo_plain he
theorem name_call1 (hr:Here F ρ T w) {nm:Str} {r:Value} (hg:globalAs F.sc nm=true) (hm:W.mg nm=none∧W.mb nm=some r) (hs:notStar l=true)
  (h:wpAny W.M F.A (callWith pos r [] [(false,eval l F.env)] []) R noE w.s):wpAny W.M F.A (eval (.Call (.Name nm np) [l] [] pos) F.env) R noE w.s:=by
 refine wpAny_Call_ofName (hr.blt hg hm ?_)
 rw [trees1 hs]
 exact h
theorem ints_vrs {ns:List Int}:∀ {vs:List Value},IntsAre vs ns→VRs w (ns.map .int) vs:=fun h=>by
 induction h with
 | nil=>exact .nil
 | cons _ _ _ ih=>exact .cons (.int _ _) ih
theorem len_of {vs:Array Value} {ll:List V} (hv:VRs w ll vs.toList):ll.length=vs.size:=by rw [hv.length,Array.length_toList]
theorem fit63 {m:Nat} (h:m≤limit):(m:Int)<2 ^ 63:=by unfold limit at h;omega
noncomputable def bfVal:BF→Value
 | .len=>.builtin "len"
 | .sorted=>.builtin "sorted"
 | .tuple=>.type "tuple"
 | .str=>.type "str"
theorem bf_blt:∀ f:BF,W.mg (fnName f)=none∧W.mb (fnName f)=some (bfVal f)
 | .len=>W.blt _ _ (.head _)
 | .sorted=>W.blt _ _ (.tail _ (.head _))
 | .tuple=>W.blt _ _ (.tail _ (.tail _ (.tail _ (.head _))))
 | .str=>W.blt _ _ (.tail _ (.tail _ (.tail _ (.tail _ (.head _)))))
theorem DR.len {K':Type} [DecidableEq K'] {knd:PySem.KeyKind W.prog W.w K'} {l:List (K'×V)} {a:Addr} {kvs:List (K'×Value)} (D:DR knd w l a kvs):kvs.length=l.length:=by
 have:=congrArg List.length D.k
 rwa [List.length_map,List.length_map] at this
theorem len_core {A:Around} {Q:Nat→Prop} (S:St W T w) (q:LenY T Q x) (hx:VR w x xv) (h:∀ (k:Nat) t tk,Q k→R (.int k t) {w.s with toks:=tk}):wpAny W.M A (call (.builtin "len") [xv]) R noE w.s:=by
 cases q with
 | tup hl q =>
  refine VR.on_tup hx fun _ _ _ _ ho hc hd hv=>?_
  rw [len_of hv] at hl q
  exact len_tuple ⟨_,ho,hc,_,hd⟩ (fit63 hl) (h _ _ _ q)
 | list ht hl q =>
  refine VR.on_obj hx fun _ hi=>St.on_list S ht hi fun _ _ _ _ ha hv=>?_
  rw [len_of hv] at hl q
  exact call_len_list ⟨_,ha,rfl,_,rfl⟩ (fit63 hl) (h _ _ _ q)
 | di ht hl q =>
  refine VR.on_obj hx fun _ hi=>St.on_di S ht hi fun _ _ hi D=>?_
  rw [←D.len] at hl q
  exact call_len_dict (S.not_mods hi) D.d (fit63 hl) (h _ _ _ q)
theorem sort_core (h₁:Here F ρ T w) (q:kBf Q .sorted x T) (hx:VR w x xv) (k:∀ v T' x w',Q v T'→VR w' v x→Here F ρ T' w'→Le noA w₀ w'→R x w'.s) (e:Le noA w₀ w):wpAny W.M F.A (call (.builtin "sorted") [xv]) R noE w.s :=
 ObjM.on q hx fun o pp hi q=>DiY.on h₁.st hi q fun kk ll kvs ht hi D q=>by
  obtain⟨hle,kk,q⟩:=q
  obtain⟨oD,es,ep,ho,hc,hd,r⟩:=D.d
  refine sorted_dict (kvs:=kvs) (h₁.st.not_mods (p:=(pp.1,pp.1)) hi) F.hh ⟨oD,es,ho,hc,hd,r⟩ (by rw [D.len];exact Nat.le_trans hle.1 (by decide)) (by rw [D.k,D.len];exact hle.2) fun s₂ DD out ns' e' hD hkp hg ho' hat hI hperm hsort=>?_
  rw [D.k] at hperm
  have e1:ns'=(ll.map (·.1)).mergeSort (fun a b=>decide (a≤b)) :=
   List.Perm.eq_of_pairwise (le:=fun a b:Int=>a≤b) (fun a b _ _ h1 h2=>Int.le_antisymm h1 h2) hsort ((List.pairwise_mergeSort (le:=fun a b:Int=>decide (a≤b)) (fun a b c h1 h2=>decide_eq_true (Int.le_trans (of_decide_eq_true h1) (of_decide_eq_true h2)))
    (fun a b=>by rw [Bool.or_eq_true,decide_eq_true_eq,decide_eq_true_eq];exact Int.le_total a b) (ll.map (·.1))).imp fun h=>of_decide_eq_true h) (hperm.trans (List.mergeSort_perm _ _).symm)
  subst e1
  exact h₁.new (pp:=(DD,DD)) k e q (fun e=>hkp _ _ e) hD hD hg ho' fun _=>.list hat (ints_vrs hI)
theorem snd_bf {f:BF} (hg:globalAs F.sc (fnName f)=true) (hs:notStar l=true) (hp:ESnd F p l):ESnd F (.bf f p) (.Call (.Name (fnName f) np) [l] [] pos):=fun {ρ T w Q R} hw hr k=>by
 refine name_call1 hr hg (bf_blt f) hs ?_
 cases f with
 | len=>exact callWith_builtin rfl (evalArgs_plain (spliced_cons (hp hw hr fun x T₁ xv w₁ q₁ r₁ h₁ e₁=>spliced_nil (len_core (Q:=kN Q T₁) h₁.st q₁ r₁ fun m t tk q=>h₁.done k e₁ q (.int m t)))))
 | sorted=>exact callWith_builtin rfl (evalArgs_plain (spliced_cons (hp hw hr fun x T₁ xv w₁ q₁ r₁ h₁ e₁=>spliced_nil (sort_core h₁ q₁ r₁ k e₁))))
 | tuple =>
  refine PySem.callWith_type rfl (evalArgs_plain (spliced_cons (hp hw hr fun x T₁ xv w₁ q₁ r₁ h₁ e₁=>spliced_nil (ObjM.on (G:=fun xv=>wpAny W.M F.A (call (.type "tuple") [xv]) R noE w₁.s) q₁ r₁ fun o pp hi q=>ListY.on h₁.st hi q fun kk ll vs m ht hi ha hv q=>?_))))
  exact call_tuple_list ⟨_,ha,rfl,_,rfl⟩ (fun h' hk=>h₁.tuple (s:={w₁.s with heap:=h'.push {cls:=.type "tuple",data:=.seq vs}}) k e₁ q.2 (fun e=>Heap.get?_push_of_some _ (hk _ _ e)) rfl rfl (Heap.get?_push_size _ rfl) rfl rfl hv)
   (fit_le (by rw [←len_of hv];exact q.1))
 | str =>
  refine PySem.callWith_type rfl (evalArgs_plain (spliced_cons (hp hw hr fun x T₁ xv w₁ q₁ r₁ h₁ e₁=>spliced_nil (IntM.on (G:=fun xv=>wpAny W.M F.A (call (.type "str") [xv]) R noE w₁.s) q₁ r₁ fun i t q=>?_))))
  refine str_of_int_or F.hh (W.nod.keeps fun _ _=>h₁.st.base) (fun _=>h₁.done k e₁ q.2 (.str _ _)) fun hh=>?_
  have:(10:Nat) ^ 4300≥10 ^ 10:=Nat.pow_le_pow_right (by decide) (by decide)
  have e10:(10:Nat) ^ 10=10000000000:=by decide
  have:=q.1
  omega
theorem list_dict {xx:Addr} {s:Shared} (h:∃ ob,s.heap.get? xx=some ob∧ob.dict=none):∀ a,Value.ref xx=.ref a→∃ ob,s.heap.get? a=some ob∧ob.dict=none:=fun a e=>by cases e;exact h
theorem push_st {A:Around} {o:Nat} {kk:K} {ll:List V} {pp:Addr×Addr} {Q:Value→Shared→Prop} (S:St W T w) (ht:T[o]?=some (kk,.list ll)) (hi:w.ads[o]?=some pp) (hb:ll.length<limit) (hv:VR w v xv)
  (h:∀ w',St W (T.set o (kk,.list (ll++[v]))) w'→Le noA w w'→w'.ads=w.ads→Q .none w'.s):wpAny W.M A (call (.builtin "list.append") [.ref pp.1,xv]) Q noE w.s:=by
 refine St.on_list S ht hi fun a vs m hi ha hr=>?_
 refine wpAny_list_append_plain (items:=vs) ⟨m,ha⟩ (fun h' ⟨k',hk'⟩ hs=>?_) (fit_le (by rw [←len_of hr];exact Nat.le_of_lt hb))
 have z:=S.update (k:=kk) (o:=.list (ll++[v])) (s:={w.s with heap:=h'}) hi ht (fun hb _ e=>(hs.2 _ hb).trans e) rfl rfl fun m1 m2=>.list hk' (by rw [Array.toList_push];exact (VRs.cons (m1 hv) .nil).append (m2 hr))
 exact h ⟨w.ads,{w.s with heap:=h'}⟩ z.1 z.2 rfl
theorem erase_eq {vs:Array Value} {k:Nat} (h:k<vs.size):(vs.eraseIdxIfInBounds k).toList=vs.toList.eraseIdx k:=by
 simp [Array.eraseIdxIfInBounds,h]
theorem seq_at {h:Heap} {a:Addr} {vs:Array Value} {k:Nat} (ha:h.get? a=some (listOf vs k)) (f:Array Value→Array Value):∃ k',(h.update a (Obj.mapSeq f)).get? a=some (listOf (f vs) k') :=
 ⟨_,get?_update_seq (c:="list") (xs:=vs) (n:=k) ha f⟩
theorem pop_done (h₁:Here F ρ T w) (k:∀ v T' x w',Q v T'→VR w' v x→Here F ρ T' w'→Le noA w₀ w'→R x w'.s) (e:Le noA w₀ w) {o j:Nat} {kk:K} {ll:List V} {a:Addr} {vs:Array Value} {m:Nat} (ht:T[o]?=some (kk,.list ll)) (hi:w.ads[o]?=some (a,a)) (ha:w.s.heap.get? a=some (listOf vs m)) (hv:VRs w ll vs.toList) (hj:j<vs.size)
  (q:PutY T o kk (.list (ll.eraseIdx j)) (Q v)) (hz:VR w v z):R z {w.s with heap:=w.s.heap.update a (Obj.mapSeq fun xs=>xs.eraseIdxIfInBounds j)}:=by
 obtain⟨k',hk'⟩:=seq_at ha fun xs=>xs.eraseIdxIfInBounds j
 have hT:=List.getElem?_set_self (a:=(kk,O.list (ll.eraseIdx j))) (List.getElem?_eq_some_iff.mp ht).1
 have z:=h₁.st.update (k:=kk) (o:=.list (ll.eraseIdx j)) (s:={w.s with heap:=w.s.heap.update a (Obj.mapSeq fun xs=>xs.eraseIdxIfInBounds j)}) hi ht (fun hb _ e=>(Heap.get?_update_ne _ _ _ _ hb).trans e) rfl rfl fun m1 m2=>.list hk' (by rw [erase_eq hj];exact (m2 hv).eraseIdx j)
 exact k _ _ _ ⟨w.ads,_⟩ (q.ex _ hT (chg_set ht)) (h₁.st.mono z.2 hz) (h₁.ext z.1 z.2) (e.trans z.2)
theorem snd_append (hb:plainBase l=true) (hline:(apos.endLine==pos.line)=true) (he:notStar e=true) (hp:ESnd F p l) (hq:ESnd F q e) :
  ESnd F (.append p q) (.Call (.Attribute l (Str.ofString "append") apos) [e] [] pos):=fun {ρ T w Q R} hw hr k =>
 wpAny_Call_method1_late (base_plain hb) hline (trees1 he) (hp hw hr fun x T₁ xv w₁ q₁ r₁ h₁ e₁=>ObjM.on q₁ r₁ fun o pp hi q₁=>by
  obtain⟨ht,q₁⟩:=q₁
  cases h₁.st.obj ht hi with
  | list ha hv =>
   refine⟨"list","list.append",_root_.PySem.F.plainAttrs_list,slot_list_append,type_list_append,⟨_,ha,rfl⟩,list_dict ⟨_,ha,rfl⟩,?_⟩
   refine callWith_builtin rfl (evalArgs_plain (spliced_cons (hq q₁ h₁ fun y T₂ yv w₂ q₂ r₂ h₂ e₂=>spliced_nil ?_)))
   obtain⟨ht,q₂⟩:=q₂
   exact push_st h₂.st ht (e₂.at_ hi) q₂.1 r₂ fun w' S x _=>k _ _ _ w' (q₂.2.ex _ (List.getElem?_set_self (List.getElem?_eq_some_iff.mp ht).1) (chg_set ht)) .none (h₂.ext S x) ((e₁.trans e₂).trans x))
theorem snd_pop (hb:plainBase l=true) (hline:(apos.endLine==pos.line)=true) (hp:ESnd F p l):ESnd F (.pop p) (.Call (.Attribute l (Str.ofString "pop") apos) [] [] pos):=fun {ρ T w Q R} hw hr k =>
 wpAny_Call_method0_late (base_plain hb) hline (hp hw hr fun x T₁ xv w₁ q₁ r₁ h₁ e₁=>ObjM.on q₁ r₁ fun o pp hi q₁=>ListY.on h₁.st hi q₁ fun kk ll vs m ht hi ha hv q=>by
  refine⟨"list","list.pop",_root_.PySem.F.plainAttrs_list,_root_.PySem.F.slot_list_pop,_root_.PySem.F.type_list_pop,⟨_,ha,rfl⟩,list_dict ⟨_,ha,rfl⟩,?_⟩
  obtain⟨hle,hy,q⟩:=q
  rw [len_of hv] at hle hy q
  obtain⟨yv,hy,hyr⟩:=hv.get hy
  exact callWith_builtin rfl (PySem.evalArgs_none (call_meets _root_.PySem.F.slot_list_pop ⟨_,ha,rfl⟩ _root_.PySem.F.entry_list_pop (_root_.PySem.F.args_list_pop_1 _) (PySem.MeetsSeq.list_pop_last pp.1 vs m yv (by simpa using hy) (fit_le hle))
   ⟨ha,pop_done h₁ k e₁ ht hi ha hv (by rw [←Array.length_toList];exact (List.getElem?_eq_some_iff.mp hy).1) q hyr⟩)))
theorem snd_popAt (hb:plainBase l=true) (hline:(apos.endLine==pos.line)=true) (he:notStar e=true) (hp:ESnd F p l) (hq:ESnd F q e) :
  ESnd F (.popAt p q) (.Call (.Attribute l (Str.ofString "pop") apos) [e] [] pos):=fun {ρ T w Q R} hw hr k =>
 wpAny_Call_method1_late (base_plain hb) hline (trees1 he) (hp hw hr fun x T₁ xv w₁ q₁ r₁ h₁ e₁=>ObjM.on q₁ r₁ fun o pp hi q₁=>ListY.on h₁.st hi q₁ fun kk ll vs m ht hi ha hv q₁=>by
  refine⟨"list","list.pop",_root_.PySem.F.plainAttrs_list,_root_.PySem.F.slot_list_pop,_root_.PySem.F.type_list_pop,⟨_,ha,rfl⟩,list_dict ⟨_,ha,rfl⟩,?_⟩
  refine callWith_builtin rfl (evalArgs_plain (spliced_cons (hq q₁ h₁ fun y T₂ yv w₂ q₂ r₂ h₂ e₂=>spliced_nil (IntM.on (G:=fun yv=>wpAny W.M F.A (call (.builtin "list.pop") [.ref pp.1,yv]) R noE w₂.s) q₂ r₂ fun i t q₂=>?_))))
  refine ListY.on (p:=(pp.1,pp.1)) (G:=fun a=>wpAny W.M F.A (call (.builtin "list.pop") [.ref a,.int i t]) R noE w₂.s) h₂.st (e₂.at_ hi) q₂ fun kk ll vs m ht hi ha hv q=>?_
  obtain⟨hle,hy,q⟩:=q
  obtain⟨zv,hz,hzr⟩:=hv.get hy
  have hj:i.toNat<vs.size:=by rw [←Array.length_toList];exact (List.getElem?_eq_some_iff.mp hz).1
  exact call_meets _root_.PySem.F.slot_list_pop ⟨_,ha,rfl⟩ _root_.PySem.F.entry_list_pop (_root_.PySem.F.args_list_pop_2 _ _) (PySem.MeetsSeq.list_pop_at pp.1 vs m i _ i.toNat zv (by unfold Builtin.List.listFitsIndex;simp;omega) (seq_ix (.inl ⟨hle.1,rfl⟩) hj) (by simpa using hz) (fit_le (by rw [←len_of hv];exact hle.2.2)))
   ⟨ha,pop_done h₂ k (e₁.trans e₂) ht hi ha hv hj q hzr⟩)
theorem snd_get1 (hb:plainBase l=true) (hline:(apos.endLine==pos.line)=true) (he:notStar e=true) (hp:ESnd F p l) (hq:ESnd F q e) :
  ESnd F (.get1 p q) (.Call (.Attribute l (Str.ofString "get") apos) [e] [] pos):=fun {ρ T w Q R} hw hr k =>
 wpAny_Call_method1_late (base_plain hb) hline (trees1 he) (hp hw hr fun x T₁ xv w₁ q₁ r₁ h₁ e₁=>ObjM.on q₁ r₁ fun o pp hi q₁=>DiY.on h₁.st hi q₁ fun kk ll kvs ht hi D q₁=>by
  refine⟨"dict","dict.get",_root_.PySem.F.plainAttrs_dict,_root_.PySem.F.slot_dict_get,_root_.PySem.F.type_dict_get,D.d.mapOf.typeIs,D.d.mapOf.noDict,?_⟩
  refine wpAny_dict_get1 (knd:=W.ik) (h₁.st.not_mods (p:=(pp.1,pp.1)) hi) (hq q₁ h₁ fun y T₂ yv w₂ q₂ r₂ h₂ e₂=>IntM.on q₂ r₂ fun i t q₂=>DiY.on (p:=(pp.1,pp.1)) h₂.st (e₂.at_ hi) q₂ fun kk ll kvs ht hi D q=>?_)
  refine⟨i,_,intKind_is _ _ _ _,D.d.mapOf,?_⟩
  rcases D.look i with ⟨q1,q2⟩|⟨v',x',q1,q2,q3⟩
  ·rw [q2];exact h₂.done k (e₁.trans e₂) q (by rw [q1];exact .none)
  ·rw [q2];exact h₂.done k (e₁.trans e₂) q (by rw [q1];exact q3))
end
end Mine
set_option genInjectivity false
namespace Mine
open PySem PySem.W PySem.Calls PyProof.Rows PySem.Spec
section
variable {W:Setup} {n:Nat} {F:Frame W n} {ρ:Rho} {T T':TH} {w w' w₀:Wd} {Q:PE'} {R:Value→Shared→Prop} {p q d:E} {l r e e₂:Expr} {pos apos np:Pos} {v x y:V} {z zv xv yv:Value} {ps:List E} {es:List Expr}
theorem DRt.look {l:List (NKey×V)} {a:Addr} {xs:List (NKey×Addr×Value)} (D:DRt W w l a xs) (k:NKey) :
  (dget l k=none∧atKey xs k=none)∨∃ v x,dget l k=some v∧(atKey xs k).map (·.2)=some x∧VR w v x:=by
 obtain⟨-,hk,-,hv⟩:=D
 induction l generalizing xs with
 | nil =>
  cases xs with
  | nil=>exact .inl ⟨rfl,rfl⟩
  | cons _ _=>cases hk
 | cons p l ih =>
  cases xs with
  | nil=>cases hk
  | cons kv kvs =>
   obtain⟨h1,h2⟩:=List.cons.inj hk
   have h1:kv.1=p.1:=h1
   cases hv with
   | cons a b =>
    unfold atKey dget
    rw [List.find?_cons,h1]
    by_cases e:p.1=k
    ·rw [if_pos e,decide_eq_true e];exact .inr ⟨_,_,rfl,rfl,a⟩
    ·rw [if_neg e,decide_eq_false e];exact ih h2 b
theorem DRt.typeIs {l:List (NKey×V)} {a:Addr} {xs:List (NKey×Addr×Value)} (D:DRt W w l a xs):w.s.TypeIs (.ref a) "dict":=have h:=D.d.choose_spec.choose_spec.choose_spec;⟨_,h.1,h.2.1.1⟩
theorem dict_at {o:Nat} {pp:Addr×Addr} {P:Prop} (S:St W T w) (hi:w.ads[o]?=some pp) (q:DictY T o P):P∧w.s.TypeIs (.ref pp.1) "dict"∧∃ ob,w.s.heap.get? pp.1=some ob∧ob.dict=none:=by
 cases q with
 | di ht q=>cases S.obj ht hi with|di D=>exact⟨q,D.d.mapOf.typeIs,D.d.mapOf.noDict _ rfl⟩
 | ds ht q=>cases S.obj ht hi with|ds D=>exact⟨q,D.d.mapOf.typeIs,D.d.mapOf.noDict _ rfl⟩
 | dt ht q=>cases S.obj ht hi with|dt D=>obtain⟨⟨o,es,ep,ho,hc,_⟩,_⟩:=D;exact⟨q,⟨_,ho,hc.1⟩,⟨_,ho,hc.2.1⟩⟩
theorem trees2 {env:Env} (he:notStar e=true) (he₂:notStar e₂=true):backTo pos (starEach [e,e₂] env)=[(false,eval e env),(false,eval e₂ env)]:=by
 rw [backTo_plain he,trees1 he₂]
theorem dr_val {K':Type} [DecidableEq K'] {knd:PySem.KeyKind W.prog W.w K'} {l:List (K'×V)} {a:Addr} {kvs:List (K'×Value)} (D:DR knd w l a kvs) (k:K') {dv:Value} (h:VR w v dv):VR w ((dget l k).getD v) ((valueAt kvs k).getD dv):=by
 rcases D.look k with ⟨q1,q2⟩|⟨_,_,q1,q2,q3⟩
 ·rw [q1,q2];exact h
 ·rw [q1,q2];exact q3
theorem snd_get2 {e₁ e₂:Expr} (hb:plainBase l=true) (hline:(apos.endLine==pos.line)=true) (he₁:notStar e₁=true) (he₂:notStar e₂=true) (hp:ESnd F p l) (hq:ESnd F q e₁) (hd:ESnd F d e₂) :
  ESnd F (.get2 p q d) (.Call (.Attribute l (Str.ofString "get") apos) [e₁,e₂] [] pos):=fun {ρ T w Q R} hw hr k =>
 wpAny_Call_method2_late (base_plain hb) hline (trees2 he₁ he₂) (hp hw hr fun x T₁ xv w₁ q₁ r₁ h₁ e₁=>ObjM.on q₁ r₁ fun o pp hi q₁=>by
  obtain⟨q₁,hT,hnd⟩:=dict_at h₁.st hi q₁
  refine⟨"dict","dict.get",_root_.PySem.F.plainAttrs_dict,_root_.PySem.F.slot_dict_get,_root_.PySem.F.type_dict_get,hT,list_dict hnd,?_⟩
  have nm:=h₁.st.not_mods hi
  refine method2_meetsIn _root_.PySem.F.slot_dict_get _root_.PySem.F.entry_dict_get (hq q₁ h₁ fun y T₂ yv w₂ q₂ r₂ h₂ e₂=>hd q₂ h₂ fun u T₃ uv w₃ q₃ r₃ h₃ e₃=>?_)
  have r₂:=h₂.st.mono e₃ r₂
  have hi:=e₃.at_ (e₂.at_ hi)
  have e:=(e₁.trans e₂).trans e₃
  have q₃:Get2Y T₃ o u (kV Q T₃) y:=q₃
  cases q₃ with
  | di ht q =>
   exact VR.on_int r₂ fun _=>St.on_di h₃.st ht hi fun _ _ hi D=>⟨D.d.mapOf.typeIs,_root_.PySem.F.args_dict_get_3 _ _ _,_,meets_dict_get_default W.ik _ (intKind_is _ _ _ _) (h₃.st.not_mods hi) uv,_,D.d.mapOf,h₃.done k e q (dr_val D _ r₃)⟩
  | ds ht q =>
   exact VR.on_str r₂ fun _=>St.on_ds h₃.st ht hi fun _ _ hi D=>⟨D.d.mapOf.typeIs,_root_.PySem.F.args_dict_get_3 _ _ _,_,meets_dict_get_default W.sk _ (strKind_is _ _ _ _) (h₃.st.not_mods hi) uv,_,D.d.mapOf,h₃.done k e q (dr_val D _ r₃)⟩
  | dt i ht q =>
   obtain⟨a,rfl⟩:=toV_ref r₂
   refine St.on_dt h₃.st ht hi fun _ _ hi D=>?_
   ·refine⟨D.typeIs,_root_.PySem.F.args_dict_get_3 _ _ _,_,meetsH_dict_get_default (nestKind W.prog W.w) _ a (h₃.st.not_mods hi) uv,?_,i,_,nkey_is r₂,D.d,h₃.done k e q ?_⟩
    ·have:=F.units;show F.A.units+1+10<cLine;lia
    ·rcases D.look i with ⟨q1,q2⟩|⟨_,_,q1,q2,q3⟩
     ·rw [q1,q2];exact r₃
     ·rw [q1,q2];exact q3)
theorem none_ge {h:Heap} {c:Addr} (hc:h.objs.size≤c):h.get? c=none:=by
 cases q:h.get? c with
 | none=>rfl
 | some o=>exact absurd (Heap.lt_size q) (Nat.not_lt.mpr hc)
theorem get_last {h:Heap} {a b:Obj} (hb:b.isFreed=false):((h.push a).push b).get? (h.objs.size+1)=some b:=by
 have:=Heap.get?_push_size (o:=b) (h.push a) hb
 rwa [Heap.size_push] at this
theorem snd_cut {j kk:Nat} {cp sp:Pos} {nm:Str} (hp:ESnd F p (.Name nm np)):ESnd F (.cut p j) (.Subscript (.Name nm np) (.Slice none (some (.Constant (.int (j:Nat)) kk cp)) none sp) pos):=fun {ρ T w Q R} hw hr k =>
 wpAny_Subscript_list_slice (hp hw hr fun x T₁ xv w₁ q₁ r₁ h₁ e₁=>evalPart_none_step (evalPart_some_step (wpAny_Constant_int (by
  cases r₁ with
  | @frz t o vs m ns ho hc hd hi hf =>
   obtain⟨hle,kk,q⟩:=q₁
   have hlen:=hi.length
   refine⟨t,vs,none,some (j:Int),rfl,⟨o,ho,hc,m,hd⟩,fit_le (by rw [←Array.length_toList,hlen];exact hle),.none,.int _ _,?_⟩
   have hI:=slice_ints_uptoW (vs:=vs.toList) hi (y:=(j:Int)) (Int.natCast_nonneg j)
   rw [Int.toNat_natCast,Array.toArray_toList] at hI
   exact h₁.new (pp:=(w₁.s.heap.objs.size+1,w₁.s.heap.objs.size+1)) (s:={w₁.s with heap:=(w₁.s.heap.push {cls:=.type "slice",data:=.fields #[.none,.int j w₁.s.toks,.none]}).push {cls:=.type "list",data:=.seq (slicePick vs none (some (j:Int)) none)},toks:=w₁.s.toks+1}) k e₁ q
    (fun e=>Heap.get?_push_of_some _ (Heap.get?_push_of_some _ e)) (none_ge (Nat.le_succ _)) (none_ge (Nat.le_succ _)) rfl rfl fun _=>.list (n:=0) (get_last rfl) (ints_vrs hI)
  | _=>exact q₁.elim)))) fun _ _=>rfl
theorem tid_core {i:Int} {t:Tok} (hr:Here F ρ T w) (hg:globalAs F.sc (Str.ofString "TID_PRIM")=true) (k:∀ tk,R (.bool (([20,9,10,11,12,13,14,15,16,17,18,19,1,4]:List Int).contains i)) {w.s with toks:=tk}) :
  wpAny W.M F.A (eval (.Name (Str.ofString "TID_PRIM") np) F.env) (fun b s₂=>wpAny W.M F.A (compareOp .In (.int i t) b) R noE s₂) noE w.s:=by
 obtain⟨td,kvs,h1,h2,⟨o,es,ep,ho,r⟩,h4⟩:=W.tid
 simp only [globalAs,Bool.and_eq_true,kindIn,beq_iff_eq] at hg
 refine wpAny_Name ?_ (plain_of hg.1).1
 rw [loadName_read F.fn (F.glob _ hg.2)]
 refine loadGlobal_global (by rw [F.gl];exact W.gns.keeps fun _ _=>hr.st.base) h1 ?_
 have hd:w.s.heap.DictOf W.ik td kvs:=⟨o,es,ep,hr.st.base ho,r⟩
 have hv:(valueAt kvs i).isSome=([20,9,10,11,12,13,14,15,16,17,18,19,1,4]:List Int).contains i:=by
  rw [←h4]
  unfold valueAt
  rw [Option.isSome_map]
  refine Bool.eq_iff_iff.mpr ?_
  rw [List.find?_isSome,List.contains_iff_mem,List.mem_map]
  exact⟨fun ⟨x,a,b⟩=>⟨x,a,of_decide_eq_true b⟩,fun ⟨x,a,b⟩=>⟨x,a,decide_eq_true b⟩⟩
 exact wpAny_in_of (intKind_is _ _ _ _) h2 hd.mapOf (hv▸k _)
theorem both_inTid (hg:globalAs F.sc (Str.ofString "TID_PRIM")=true) (hp:ESnd F p l):Both F (.inTid p) (.Compare l [.In] [.Name (Str.ofString "TID_PRIM") np] pos) :=
 ⟨fun {ρ T w Q R} hw hr k=>wpAny_Compare1 (hp hw hr fun x T₁ xv w₁ q₁ r₁ h₁ e₁=>IntM.on q₁ r₁ fun i t q=>tid_core h₁ hg fun tk=>h₁.done k e₁ q (.bool _)) rfl,
  fun {ρ T w P R} hw hr k=>wpAny_isTrue_Compare1 (hp hw hr fun x T₁ xv w₁ q₁ r₁ h₁ e₁=>IntM.on q₁ r₁ fun i t q=>tid_core (R:=fun v s=>wpAny W.M F.A (truthy v) R noE s) h₁ hg fun tk=>wpAny_truthy_bool (k _ T₁ ⟨w₁.ads,{w₁.s with toks:=tk}⟩ q (h₁.toks tk) (e₁.trans (.toks tk)))) rfl⟩
end
end Mine
set_option genInjectivity false
namespace Mine
open PySem PySem.W PySem.Calls PyProof.Rows PySem.Spec
section
variable {W:Setup} {n:Nat} {F:Frame W n} {ρ:Rho} {T T':TH} {w w' w₀:Wd} {Q:PE'} {R:Value→Shared→Prop} {p q d:E} {l r e e₂:Expr} {pos apos np:Pos} {v x y:V} {z zv xv yv:Value} {ps:List E} {es:List Expr}
theorem some'_eq {α:Type} {o:Option α} {k:α→Bool} (h:some' o k=true):∃ a,o=some a∧k a=true:=by
 cases o with
 | none=>cases h
 | some a=>exact⟨a,rfl,h⟩
section
variable {q:Expr} {P:Expr→Prop}
@[elab_as_elim] theorem cE.on {nm:Str→Bool} {cn:Const→Bool} {bi:Expr→Operator→Expr→Bool} {un:UnaryOp→Expr→Bool} {bo:BoolOp→List Expr→Bool} {cp:Expr→List CmpOp→List Expr→Bool} {tu li:List Expr→Bool} {di:List (Option Expr)→List Expr→Bool} {su:Expr→Expr→Bool}
  {at_:Expr→Str→Pos→Bool} {ca:Expr→List Expr→List Keyword→Pos→Bool} {lc:Expr→List Comprehension→Scope→Bool} {sl:Option Expr→Option Expr→Option Expr→Bool} {st se:Bool} (h:cE q nm cn bi un bo cp tu li di su at_ ca lc sl st se=true)
  (h1:∀ x p,nm x=true→P (.Name x p)) (h2:∀ c k p,cn c=true→P (.Constant c k p)) (h3:∀ l o r p,bi l o r=true→P (.BinOp l o r p)) (h4:∀ o x p,un o x=true→P (.UnaryOp o x p)) (h5:∀ o l p,bo o l=true→P (.BoolOp o l p)) (h6:∀ l o r p,cp l o r=true→P (.Compare l o r p))
  (h7:∀ l k p,tu l=true→P (.Tuple l k p)) (h8:∀ l p,li l=true→P (.List l p)) (h9:∀ k v p,di k v=true→P (.Dict k v p)) (h10:∀ v i p,su v i=true→P (.Subscript v i p)) (h11:∀ v x p,at_ v x p=true→P (.Attribute v x p)) (h12:∀ f l k p,ca f l k p=true→P (.Call f l k p))
  (h13:∀ e g s p,lc e g s=true→P (.ListComp e g s p)) (h14:∀ a b c p,sl a b c=true→P (.Slice a b c p)) (h15:∀ v p,st=true→P (.Starred v p)) (h16:∀ l k p,se=true→P (.Set l k p)):P q:=by
 cases q<;>first|exact h1 _ _ h|exact h2 _ _ _ h|exact h3 _ _ _ _ h|exact h4 _ _ _ h|exact h5 _ _ _ h|exact h6 _ _ _ _ h|exact h7 _ _ _ h|exact h8 _ _ h|exact h9 _ _ _ h|exact h10 _ _ _ h|exact h11 _ _ _ h|exact h12 _ _ _ _ h|exact h13 _ _ _ _ h|exact h14 _ _ _ _ h|exact h15 _ _ h|exact h16 _ _ _ h|exact (Bool.false_ne_true h).elim
theorem no2 {α β:Sort _} {G:α→β→Prop}:∀ a b,false=true→G a b:=fun _ _ h=>(Bool.false_ne_true h).elim
theorem no3 {α β γ:Sort _} {G:α→β→γ→Prop}:∀ a b c,false=true→G a b c:=fun _ _ _ h=>(Bool.false_ne_true h).elim
theorem no4 {α β γ δ:Sort _} {G:α→β→γ→δ→Prop}:∀ a b c d,false=true→G a b c d:=fun _ _ _ _ h=>(Bool.false_ne_true h).elim
@[elab_as_elim] theorem cE.name {k:Str→Bool} (h:cE q (nm:=k)=true) (c:∀ x p,k x=true→P (.Name x p)):P q:=cE.on h c no3 no4 no3 no3 no4 no3 no2 no3 no3 no3 no4 no4 no4 no2 no3
@[elab_as_elim] theorem cE.const {k:Const→Bool} (h:cE q (cn:=k)=true) (c:∀ x kk p,k x=true→P (.Constant x kk p)):P q:=cE.on h no2 c no4 no3 no3 no4 no3 no2 no3 no3 no3 no4 no4 no4 no2 no3
@[elab_as_elim] theorem cE.bin {k:Expr→Operator→Expr→Bool} (h:cE q (bi:=k)=true) (c:∀ l o r p,k l o r=true→P (.BinOp l o r p)):P q:=cE.on h no2 no3 c no3 no3 no4 no3 no2 no3 no3 no3 no4 no4 no4 no2 no3
@[elab_as_elim] theorem cE.un {k:UnaryOp→Expr→Bool} (h:cE q (un:=k)=true) (c:∀ o x p,k o x=true→P (.UnaryOp o x p)):P q:=cE.on h no2 no3 no4 c no3 no4 no3 no2 no3 no3 no3 no4 no4 no4 no2 no3
@[elab_as_elim] theorem cE.bool {k:BoolOp→List Expr→Bool} (h:cE q (bo:=k)=true) (c:∀ o l p,k o l=true→P (.BoolOp o l p)):P q:=cE.on h no2 no3 no4 no3 c no4 no3 no2 no3 no3 no3 no4 no4 no4 no2 no3
@[elab_as_elim] theorem cE.cmp {k:Expr→List CmpOp→List Expr→Bool} (h:cE q (cp:=k)=true) (c:∀ l o r p,k l o r=true→P (.Compare l o r p)):P q:=cE.on h no2 no3 no4 no3 no3 c no3 no2 no3 no3 no3 no4 no4 no4 no2 no3
@[elab_as_elim] theorem cE.tup {k:List Expr→Bool} (h:cE q (tu:=k)=true) (c:∀ l kk p,k l=true→P (.Tuple l kk p)):P q:=cE.on h no2 no3 no4 no3 no3 no4 c no2 no3 no3 no3 no4 no4 no4 no2 no3
@[elab_as_elim] theorem cE.list {k:List Expr→Bool} (h:cE q (li:=k)=true) (c:∀ l p,k l=true→P (.List l p)):P q:=cE.on h no2 no3 no4 no3 no3 no4 no3 c no3 no3 no3 no4 no4 no4 no2 no3
@[elab_as_elim] theorem cE.dict {k:List (Option Expr)→List Expr→Bool} (h:cE q (di:=k)=true) (c:∀ a b p,k a b=true→P (.Dict a b p)):P q:=cE.on h no2 no3 no4 no3 no3 no4 no3 no2 c no3 no3 no4 no4 no4 no2 no3
@[elab_as_elim] theorem cE.sub {k:Expr→Expr→Bool} (h:cE q (su:=k)=true) (c:∀ a b p,k a b=true→P (.Subscript a b p)):P q:=cE.on h no2 no3 no4 no3 no3 no4 no3 no2 no3 c no3 no4 no4 no4 no2 no3
@[elab_as_elim] theorem cE.attr {k:Expr→Str→Pos→Bool} (h:cE q (at_:=k)=true) (c:∀ v x p,k v x p=true→P (.Attribute v x p)):P q:=cE.on h no2 no3 no4 no3 no3 no4 no3 no2 no3 no3 c no4 no4 no4 no2 no3
@[elab_as_elim] theorem cE.call {k:Expr→List Expr→List Keyword→Pos→Bool} (h:cE q (ca:=k)=true) (c:∀ f l ks p,k f l ks p=true→P (.Call f l ks p)):P q:=cE.on h no2 no3 no4 no3 no3 no4 no3 no2 no3 no3 no3 c no4 no4 no2 no3
@[elab_as_elim] theorem cE.comp {k:Expr→List Comprehension→Scope→Bool} (h:cE q (lc:=k)=true) (c:∀ e g s p,k e g s=true→P (.ListComp e g s p)):P q:=cE.on h no2 no3 no4 no3 no3 no4 no3 no2 no3 no3 no3 no4 c no4 no2 no3
@[elab_as_elim] theorem cE.slice {k:Option Expr→Option Expr→Option Expr→Bool} (h:cE q (sl:=k)=true) (c:∀ x y z p,k x y z=true→P (.Slice x y z p)):P q:=cE.on h no2 no3 no4 no3 no3 no4 no3 no2 no3 no3 no3 no4 no4 c no2 no3
@[elab_as_elim] theorem str_on {k:Str→Bool} (h:isStr q k=true) (c:∀ x kk p,k x=true→P (.Constant (.str x) kk p)):P q:=cE.const h fun x kk p h=>by
 cases x<;>first|exact c _ _ _ h|exact (Bool.false_ne_true h).elim
end
theorem isStr_eq {k:Str→Bool} (h:isStr e k=true):∃ x kk cp,e=.Constant (.str x) kk cp∧k x=true :=
 str_on (P:=fun e=>∃ x kk cp,e=.Constant (.str x) kk cp∧k x=true) h fun x kk cp q=>⟨x,kk,cp,rfl,q⟩
theorem keyOk_eq {p:Option Expr×Str} (h:keyOk p=true):∃ kk cp,p.1=some (.Constant (.str p.2) kk cp):=by
 obtain⟨a,h1,h⟩:=some'_eq h
 obtain⟨x,kk,cp,rfl,h⟩:=isStr_eq h
 exact⟨kk,cp,eq_of_beq h▸h1⟩
noncomputable def EachSnd (F:Frame W n):List E→List Expr→Prop
 | [],l=>l=[]
 | p::ps,l=>∃ e es,l=e::es∧(notStar e=true∧ESnd F p e)∧EachSnd F ps es
theorem EachSnd.ess {ps:List E}:∀ {es:List Expr},EachSnd F ps es→EsSnd F ps es:=by
 induction ps with
 | nil=>rintro _ rfl;exact ess_nil
 | cons p ps ih=>rintro _ ⟨e,es,rfl,h,hs⟩;exact ess_cons h.1 h.2 (ih hs)
theorem EachSnd.len {ps:List E}:∀ {es:List Expr},EachSnd F ps es→ps.length=es.length:=by
 induction ps with
 | nil=>rintro _ rfl;rfl
 | cons p ps ih=>rintro _ ⟨e,es,rfl,h,hs⟩;exact congrArg (·+1) (ih hs)
theorem EachSnd.plain {ps:List E}:∀ {es:List Expr},EachSnd F ps es→(backTo pos (starEach es F.env)).any (·.1)=false∧∀ x∈backTo pos (starEach es F.env),x.1=false:=by
 induction ps with
 | nil=>rintro _ rfl;exact⟨rfl,fun _ h=>nomatch h⟩
 | cons p ps ih =>
  rintro _ ⟨e,es,rfl,h,hs⟩
  rw [backTo_plain h.1]
  exact⟨(ih hs).1,fun x hx=>(List.mem_cons.mp hx).elim (fun e=>e▸rfl) ((ih hs).2 x)⟩
theorem pairs_snd {ps:List E}:∀ {es:List Expr} {ks:List (Option Expr)} {nms:List Str} {T w} {Q:PEs'} {R:List (Value×Value)→Shared→Prop},EachSnd F ps es→ks.length=ps.length→nms.length=ps.length→((ks.zip nms).all keyOk)=true →
  EVs (CN n) ρ ps T Q→Here F ρ T w→(∀ vs T' r w' kvs,vs.length=ps.length→Q vs T'→Carries W.sk r kvs→kvs.map (·.1)=nms→VRs w' vs (kvs.map (·.2))→Here F ρ T' w'→Le noA w w'→R r w'.s) →
  wpAny W.M F.A (evalPairs (pairTrees ks es F.env pos)) R noE w.s:=by
 induction ps with
 | nil =>
  rintro _ ks nms T w Q R rfl h1 h2 h3 q hr k
  cases List.length_eq_zero_iff.mp h1
  cases List.length_eq_zero_iff.mp h2
  exact pairTrees_nil_walk (k [] T [] w [] rfl q trivial rfl .nil hr .refl)
 | cons p ps ih =>
  rintro _ ks nms T w Q R ⟨e,es,rfl,h,hs⟩ h1 h2 h3 q hr k
  cases ks with|nil=>cases h1|cons ky ks =>
  cases nms with|nil=>cases h2|cons nm nms =>
  simp only [List.zip_cons_cons,List.all_cons,Bool.and_eq_true] at h3
  obtain⟨kk,cp,hk⟩:=keyOk_eq h3.1
  have hk:ky=some (.Constant (.str nm) kk cp):=hk
  subst hk
  exact pairTrees_cons_walk (wpAny_Constant_str (h.2 q (hr.toks (w.s.toks+1)) fun x T₁ xv w₁ q₁ r₁ h₁ e₁=>ih hs (Nat.succ.inj h1) (Nat.succ.inj h2) h3.2 q₁ h₁ fun vs T₂ r w₂ kvs hl q₂ c1 c2 c3 h₂ e₂ =>
   k (x::vs) T₂ _ w₂ ((nm,xv)::kvs) (congrArg (·+1) hl) q₂ ⟨strKind_is _ _ _ _,rfl,c1⟩ (congrArg (nm::·) c2) (.cons (h₁.st.mono e₂ r₁) c3) h₂ (((Le.toks _).trans e₁).trans e₂)))
theorem stored_end {K:Type} [DecidableEq K] {acc:List (K×Value)} {k:K} {v:Value} (h:k∉acc.map (·.1)):stored acc k v=acc++[(k,v)]:=by
 unfold stored
 rw [if_neg]
 intro q
 rw [List.any_eq_true] at q
 obtain⟨x,hx,hk⟩:=q
 exact h (List.mem_map.mpr ⟨x,hx,of_decide_eq_true hk⟩)
theorem merged_all {K:Type} [DecidableEq K]:∀ (kvs acc:List (K×Value)),((acc++kvs).map (·.1)).Nodup→merged acc kvs=acc++kvs
 | [],acc,_=>(List.append_nil _).symm
 | p::kvs,acc,h=>by
  have h':(acc++[p]++kvs).map (·.1)=(acc++p::kvs).map (·.1):=by rw [List.append_assoc];rfl
  have hp:p.1∉acc.map (·.1):=fun hm=>by
   rw [List.map_append,List.nodup_append] at h
   exact h.2.2 _ hm _ (.head _) rfl
  show merged (stored acc p.1 p.2) kvs=_
  rw [stored_end hp,merged_all kvs (acc++[p]) (h'▸h),List.append_assoc];rfl
theorem zip_take {α β:Type}:∀ (ks:List α) (l:List β),ks.zip (l.take ks.length)=ks.zip l
 | [],_=>rfl
 | _::_,[]=>rfl
 | k::ks,x::l=>congrArg ((k,x)::·) (zip_take ks l)
theorem keys_some {ks:List (Option Expr)}:∀ {l:List Str},ks.length≤l.length→(ks.zip l).all keyOk=true→ks.all (·.isSome)=true:=by
 induction ks with
 | nil=>exact fun _ _=>rfl
 | cons k ks ih =>
  intro l h hk
  cases l with|nil=>cases h|cons x l =>
  rw [List.zip_cons_cons,List.all_cons,Bool.and_eq_true] at hk
  obtain⟨kk,cp,e⟩:=keyOk_eq hk.1
  have e:k=_:=e
  rw [e]
  exact ih (Nat.le_of_succ_le_succ h) hk.2
theorem snd_wd {ks:List (Option Expr)} (hl:ks.length=ps.length∧1≤ps.length∧ps.length≤15) (hk:((ks.zip tab.wks).all keyOk)=true) (hs:EachSnd F ps es):ESnd F (.wd ps) (.Dict ks es pos):=fun {ρ T w Q R} ⟨kk,q⟩ hr k=>by
 obtain⟨hkl,h0,h15⟩:=hl
 have w15:ps.length≤tab.wks.length:=by rw [wks_ok.2];exact h15
 have hnl:(tab.wks.take ps.length).length=ps.length:=by rw [List.length_take];exact Nat.min_eq_left w15
 refine wpAny_Dict_walk (knd:=W.sk) (keys_some (by rw [hkl];exact w15) hk) (by rw [hkl,hs.len]) (fun q=>by rw [q] at hkl;rw [←hkl] at h0;cases h0) (by rw [hkl];exact h15) ?_
 refine hr.newS (pp:=(w.s.heap.objs.size,w.s.heap.objs.size)) (s:={w.s with heap:=w.s.heap.push {cls:=.type "dict",data:=.dict #[]}}) q (fun e=>Heap.get?_push_of_some _ e) (get_size _) (get_size _) rfl rfl
  (fun _=>.wd ⟨DictOf.new _ _,rfl,.nil⟩ (Nat.zero_le _)) fun i T₁ q₁ ht hi h₁ e₁=>?_
 refine pairs_snd (w:=⟨_,{w.s with heap:=w.s.heap.push {cls:=.type "dict",data:=.dict #[]}}⟩) hs hkl hnl (by rw [←hkl,zip_take];exact hk) q₁ h₁ fun vs T₂ r w₂ kvs hl q₂ c1 c2 c3 h₂ e₂=>?_
 have hi:=e₂.at_ hi
 obtain⟨ht,q₂⟩:=q₂
 cases h₂.st.obj ht hi with
 | @wd _ kvs0 _ D hlw =>
  have hkn:kvs0=[]:=List.map_eq_nil_iff.mp (D.k.trans (by rw [List.zip_nil_right];rfl))
  subst hkn
  refine⟨kvs,c1,D.d,fun h' hd' hs'=>?_⟩
  rw [merged_all kvs [] (by rw [List.nil_append,c2];exact (List.take_sublist _ _).nodup wks_ok.1),List.nil_append] at hd'
  have hT:=List.getElem?_set_self (a:=(kk,O.wd vs)) (List.getElem?_eq_some_iff.mp ht).1
  have hz:=zip_keys (ks:=tab.wks) (l:=vs) (by rw [hl];exact w15)
  have z:=h₂.st.update (k:=kk) (o:=.wd vs) (s:={w₂.s with heap:=h',toks:=w₂.s.toks+r.length}) hi ht (fun hb _ e=>(hs'.2 _ hb).trans e) rfl rfl fun _ mon=>.wd ⟨hd',by rw [hz.1,c2,hl],by rw [hz.2];exact mon c3⟩ (by rw [hl];exact w15)
  exact k _ _ _ ⟨w₂.ads,_⟩ (q₂.ex _ hT (chg_set ht)) (VR.obj (w:=⟨w₂.ads,{w₂.s with heap:=h',toks:=w₂.s.toks+r.length}⟩) hi) (h₂.ext z.1 z.2) ((e₁.trans e₂).trans z.2)
end
structure AOKc (n:Nat) (A:Around):Prop where
 hh:A.handled=none
 depth:A.depth+3*n+3<recursionLimit
 units:A.units+10*n+95<cLine
noncomputable def RetIs (P:Value→Shared→Prop) (r:Result) (s':Shared):Prop:=match r with
 | .ok (.ret x)=>P x s'
 | _=>False
noncomputable def CSnd (W:Setup) (n:Nat):Prop :=
 ∀ {f:Nat} {vs:List V} {T:TH} {Q:PE'} {A:Around} {w:Wd} {xs:List Value} {P:Value→Shared→Prop},CN n f vs T Q→AOKc n A→St W T w→VRs w vs xs→(∀ v T' x w',Q v T'→VR w' v x→St W T' w'→Le noA w w'→P x w'.s) →
  codeAny W.M A (.call (.ref (W.fn f)) ⟨xs,[]⟩) (RetIs P) w.s
theorem ret_call {M:Model} {A:Around} {s:Shared} {f:Value} {xs:List Value} {P:Value→Shared→Prop} (h:codeAny M A (.call f ⟨xs,[]⟩) (RetIs P) s):wpAny M A (call f xs) P noE s:=by
 refine wpAny_call (codeAny_mono h fun r s' hr=>?_)
 unfold RetIs at hr
 split at hr
 ·exact hr
 ·exact hr.elim
section
variable {W:Setup} {n:Nat} {F:Frame W n} {ρ:Rho} {T T':TH} {w w' w₀:Wd} {Q:PE'} {R:Value→Shared→Prop} {p q d:E} {l r e e₂:Expr} {pos apos np:Pos} {v x y:V} {z zv xv yv:Value} {ps:List E} {es:List Expr} {f c:Nat} {nm:Str}
theorem Frame.ok (F:Frame W n):AOKc n F.A:=⟨F.hh,by have:=F.depth;lia,by have:=F.units;lia⟩
theorem Here.glob (hr:Here F ρ T w) {x:Str} {r:Value} (hg:globalAs F.sc x=true) (hm:W.mg x=some r) (h:R r w.s):wpAny W.M F.A (eval (.Name x pos) F.env) R noE w.s:=by
 simp only [globalAs,Bool.and_eq_true,kindIn,beq_iff_eq] at hg
 refine wpAny_Name ?_ (plain_of hg.1).1
 rw [loadName_read F.fn (F.glob _ hg.2)]
 exact loadGlobal_global (by rw [F.gl];exact W.gns.keeps fun _ _=>hr.st.base) hm h
theorem star_plain {env:Env} (he:notStar e=true):starEach (e::es) env=(false,eval e env)::starEach es env:=by cases e<;>first|rfl|cases he
theorem args_snd {ff:Value} {first:List Value} {Q:PEs'} (hp:EachSnd F ps es) (q:EVs (CN n) ρ ps T Q) (hr:Here F ρ T w) (hk:keepIn W.K ff=true)
  (k:∀ vs T' xs w',Q vs T'→VRs w' vs xs→Here F ρ T' w'→Le noA w w'→wpAny W.M F.A (call ff (first++xs)) R noE w'.s) :
  wpAny W.M F.A (callWith pos ff first (backTo pos (starEach es F.env)) []) R noE w.s:=by
 cases ps with
 | nil =>
  cases hp
  exact callWith_K0 hr.st.inK hk (k [] T [] w q .nil hr .refl)
 | cons p ps =>
  have hs:EsSnd F (p::ps) es:=hp.ess
  obtain⟨e,es,rfl,h,hp⟩:=hp
  exact callWith_K hr.st.inK hk (hs q hr fun vs T₁ xs w₁ hl q₁ r₁ h₁ e₁=>⟨h₁.st.inK,k vs T₁ xs w₁ q₁ r₁ h₁ e₁⟩) (star_plain h.1) (hp.plain (pos:=pos)).1
theorem snd_call (hC:CSnd W n) (hf:(nm,f)∈tab.gfns) (hg:globalAs F.sc nm=true) (hp:EachSnd F ps es):ESnd F (.call f ps) (.Call (.Name nm np) es [] pos):=fun {ρ T w Q R} hw hr k =>
 wpAny_Call_ofName (hr.glob hg (W.calls _ hf).1 (args_snd hp hw hr (W.calls _ hf).2 fun vs T₁ xs w₁ q₁ r₁ h₁ e₁=>ret_call (hC q₁.c F.ok h₁.st r₁ fun v T' x w' q r S e=>k v T' x w' q r (h₁.ext S e) (e₁.trans e))))
theorem snd_meth (hC:CSnd W n) (hf:(c,nm,f)∈tab.meths) (hb:plainBase l=true) (hline:(apos.endLine==pos.line)=true) (hlen:es.length<14) (ho:ESnd F p l) (hp:EachSnd F ps es):ESnd F (.meth p c f ps) (.Call (.Attribute l nm apos) es [] pos):=fun {ρ T w Q R} hw hr k=>by
 obtain⟨g0,g1,g2,g3,g4⟩:=W.meths _ hf
 rw [arm_eval_Call,base_plain hb]
 refine wpAny_bind (ho hw hr fun x T₁ xv w₁ q₁ r₁ h₁ e₁=>ObjM.on q₁ r₁ fun o pp hi q=>wpAny_bind (wpAny_standAt ?_))
 have hform:methodCallForm (es.length+([]:List Keyword).length) (backTo pos (starEach es F.env)) (backToKw pos (keywordEach [] F.env))=true:=by
  unfold methodCallForm
  rw [Bool.and_eq_true,Bool.and_eq_true,List.all_eq_true]
  exact⟨⟨fun x hx=>by rw [hp.plain.2 x hx];rfl,rfl⟩,decide_eq_true (by show es.length+0+0<30;omega)⟩
 have hpos:methodCallPos true l F.env apos pos=pure pos:=by unfold methodCallPos;simp [hline]
 unfold methodCall
 rw [hform]
 unfold calleeOf
 refine wpAny_bind (wpAny_holding ?_)
 obtain⟨hl,q⟩:=q
 cases h₁.st.obj hl hi with
 | inst ha hd hmm hv hln hne =>
  refine get_meth h₁.st.inK (.of (W.cok c g0)) ha hd.ns g1 g2 (by rw [hmm];exact lookup_zip_none g3) ?_
  refine wpAny_bind (wpAny_of_eq hpos ?_)
  exact args_snd hp q h₁ g4 fun vs T₂ xs w₂ q₂ r₂ h₂ e₂=>ret_call (hC q₂.c F.ok h₂.st (.cons (.obj (e₂.at_ hi)) r₂) fun v T' x w' q r S e=>k v T' x w' q r (h₂.ext S e) ((e₁.trans e₂).trans e))
theorem tc_units (a:Addr) (xs:List Value):(Code.builtin "type.__call__" ⟨.ref a::xs,[]⟩).weight≤1∧(Code.builtin "type.__call__" ⟨.ref a::xs,[]⟩).cUnits≤4:=by
 have h1:(Code.builtin "type.__call__" ⟨.ref a::xs,[]⟩).weight=1:=by kernel_rfl
 have h2:(Code.builtin "type.__call__" ⟨.ref a::xs,[]⟩).cUnits=1:=by kernel_rfl
 rw [h1,h2];exact⟨by decide,by decide⟩
theorem Frame.under (F:Frame W n) {c:Code} (h:c.weight≤1∧c.cUnits≤4):AOKc n (F.A.under c) :=
 ⟨F.hh,by have:=F.depth;show F.A.depth+c.weight+3*n+3<_;lia,by have:=F.units;show F.A.units+c.cUnits+10*n+95<_;lia⟩
theorem new_or {h:Heap} {c:Nat} (w:Wd) (hs:w.s.heap=(h.push emptyDict).push (instObj (W.cls c) h.objs.size)):OR W w (.inst c []) (h.objs.size+1,h.objs.size) :=
 .inst (m:=fun _=>none) (vals:=[]) (by rw [hs];exact get_last rfl) (by rw [hs];exact⟨_,#[],0,Heap.get?_push_of_some _ (Heap.get?_push_size _ rfl),rfl,fun _ he=>by simp at he,List.Pairwise.nil,fun _=>rfl⟩) (fun y=>by rw [List.zip_nil_right];rfl) .nil (Nat.zero_le _) (Nat.succ_ne_self _)
theorem snd_new (hC:CSnd W n) (hc:tab.cnames[c]?=some nm) (hf:(c,f)∈tab.inits) (hg:globalAs F.sc nm=true) (hp:EachSnd F ps es):ESnd F (.new c f ps) (.Call (.Name nm np) es [] pos):=fun {ρ T w Q R} ⟨kk,hw⟩ hr k=>by
 obtain⟨h3,h4⟩:=W.inits _ hf
 refine wpAny_Call_ofName (hr.glob hg (W.cg _ _ hc).1 (args_snd hp hw hr (W.cg _ _ hc).2 fun vs T₁ xs w₁ q₁ r₁ h₁ e₁=>ret_call ?_))
 obtain⟨ads,⟨hh,g,d,t,os⟩⟩:=w₁
 have X:W.K.In hh:=h₁.st.inK
 refine make_core (makes_of X (ClsOk.of (W.cok c (List.getElem?_eq_some_iff.mp hc).1)).made) (looks_findIn X h3) (fun self=>bind_fn X self h4) (.inl rfl) ?_
 refine h₁.newS (pp:=(hh.objs.size+1,hh.objs.size)) (s:=⟨(hh.push emptyDict).push (instObj (W.cls c) hh.objs.size),g,d,t,os⟩) q₁ (fun e=>Heap.get?_push_of_some _ (Heap.get?_push_of_some _ e)) (none_ge (Nat.le_succ _)) (get_size _) rfl rfl (fun _=>new_or _ rfl) fun i T₂ q₂ _ hi h₂ e₂=>?_
 refine codeAny_mono (hC (w:=⟨ads++[(hh.objs.size+1,hh.objs.size)],_⟩) (xs:=.ref (hh.objs.size+1)::xs) q₂.c (F.under (tc_units _ _)) h₂.st (.cons (VR.obj (w:=⟨ads++[(hh.objs.size+1,hh.objs.size)],_⟩) hi) ((h₁.st.mono2 e₂ .none).2 r₁)) (P:=fun x s=>x=.none∧R (.ref (hh.objs.size+1)) s) fun v T' x w' q r S e=>?_) fun r s' hq=>?_
 ·obtain⟨rfl,q⟩:=q
  cases r
  exact⟨rfl,k _ T' _ w' q (.obj (e.at_ hi)) (h₂.ext S e) ((e₁.trans e₂).trans e)⟩
 ·unfold RetIs at hq
  split at hq
  ·obtain⟨rfl,hq⟩:=hq;exact⟨rfl,hq⟩
  ·exact hq.elim
theorem snd_new0 (hc:tab.cnames[c]?=some nm) (hf:c∈tab.new0s) (hg:globalAs F.sc nm=true):ESnd F (.new0 c) (.Call (.Name nm np) [] [] pos):=fun {ρ T w Q R} ⟨kk,q⟩ hr k=>by
 refine wpAny_Call_ofName (hr.glob hg (W.cg _ _ hc).1 (callWith_K0 hr.st.inK (W.cg _ _ hc).2 (ret_call ?_)))
 obtain⟨ads,⟨hh,g,d,t,os⟩⟩:=w
 have X:W.K.In hh:=hr.st.inK
 have Y:=makes_of (M:=W.M) X (ClsOk.of (W.cok c (List.getElem?_eq_some_iff.mp hc).1)).made
 refine make_core Y (looks_findIn X (W.new0s _ hf)) (fun self=>Looks.of_pure (oi_bind self)) (.inr ⟨rfl,rfl⟩) ?_
 have t1:Looks W.M ((hh.push emptyDict).push (instObj (W.cls c) hh.objs.size)) (typeOf (.ref (hh.objs.size+1))) (.ref (W.cls c)):=(Looks.ld (get_last rfl)).andThen .now
 have t2:Looks W.M ((hh.push emptyDict).push (instObj (W.cls c) hh.objs.size)) (isInstance (.ref (hh.objs.size+1)) (.type "object")) true:=t1.andThen (Y.top.keeps fun b o e=>Heap.get?_push_of_some _ (Heap.get?_push_of_some _ e))
 refine codeAny_call_builtin oi_plain entry_oi (@check_slot W.M _ _ _ "object.__init__" "object" "__init__" (.ref (hh.objs.size+1)) [] [] _ oi_kind oi_split t2 (oi_args (.ref (hh.objs.size+1))) ?_)
 show wpAny _ _ (Builtin.«object.__init__» ⟨[.ref (hh.objs.size+1)],[]⟩) _ _ _
 rw [oi_run]
 exact wpAny_pure (And.intro rfl (hr.new (pp:=(hh.objs.size+1,hh.objs.size)) (s:=⟨(hh.push emptyDict).push (instObj (W.cls c) hh.objs.size),g,d,t,os⟩) k .refl q (fun e=>Heap.get?_push_of_some _ (Heap.get?_push_of_some _ e)) (none_ge (Nat.le_succ _)) (get_size _) rfl rfl fun _=>new_or _ rfl))
end
end Mine
set_option genInjectivity false
namespace Mine
open PySem PySem.W PySem.Calls PyProof.Rows PySem.Spec
section
variable {K':Type} [DecidableEq K'] {w:Wd}
theorem map_put_id {r:List (K'×Value)} {k:K'} {v:Value} (hn:k∉r.map (·.1)):r.map (fun kv=>if kv.1=k then (kv.1,v) else kv)=r:=by
 refine (List.map_congr_left fun p hp=>if_neg fun e=>hn ?_).trans (List.map_id _)
 exact e▸List.mem_map_of_mem hp
theorem stored_miss {p:K'×Value} {r:List (K'×Value)} {k:K'} {v:Value} (e:¬ p.1=k):stored (p::r) k v=p::stored r k v:=by
 unfold stored
 rw [List.any_cons,decide_eq_false e,Bool.false_or,List.map_cons,if_neg e]
 split<;>rfl
theorem stored_hit {p:K'×Value} {r:List (K'×Value)} {k:K'} {v:Value} (e:p.1=k) (hn:k∉r.map (·.1)):stored (p::r) k v=(p.1,v)::r:=by
 unfold stored
 rw [List.any_cons,decide_eq_true e,Bool.true_or,if_pos rfl,List.map_cons,map_put_id hn,if_pos e]
theorem put_vrs {k:K'} {v:V} {x:Value} (hx:VR w v x) {l:List (K'×V)}:∀ {kvs:List (K'×Value)},kvs.map (·.1)=l.map (·.1)→(kvs.map (·.1)).Nodup→VRs w (l.map (·.2)) (kvs.map (·.2)) →
  (stored kvs k x).map (·.1)=(dput l k v).map (·.1)∧VRs w ((dput l k v).map (·.2)) ((stored kvs k x).map (·.2)):=by
 induction l with
 | nil =>
  intro kvs hk _ _
  cases List.map_eq_nil_iff.mp hk
  exact⟨rfl,.cons hx .nil⟩
 | cons p l ih =>
  intro kvs hk hn hv
  cases kvs with|nil=>cases hk|cons q kvs =>
  have h1:q.1=p.1:=(List.cons.inj hk).1
  have h2:=(List.cons.inj hk).2
  rw [List.map_cons,List.nodup_cons] at hn
  have a:=(VRs.cut hv).1
  have b:=(VRs.cut hv).2
  unfold dput
  by_cases e:p.1=k
  ·rw [if_pos e,stored_hit (h1.trans e) (e▸h1▸hn.1),List.map_cons,List.map_cons,h1,h2]
   exact⟨rfl,.cons hx b⟩
  ·rw [if_neg e,stored_miss fun q=>e (h1▸q)]
   exact⟨List.cons_eq_cons.mpr ⟨h1,(ih h2 hn.2 b).1⟩,.cons a (ih h2 hn.2 b).2⟩
theorem storedH_miss {p:K'×Addr×Value} {r:List (K'×Addr×Value)} {k:K'} {a:Addr} {v:Value} (e:¬ p.1=k):storedH (p::r) k a v=p::storedH r k a v:=by
 unfold storedH atKey
 simp only [List.find?_cons,decide_eq_false e,List.map_cons,PySem.putAt,if_neg e,List.cons_append]
 split<;>rfl
theorem storedH_hit {p:K'×Addr×Value} {r:List (K'×Addr×Value)} {k:K'} {a:Addr} {v:Value} (e:p.1=k) (hn:k∉r.map (·.1)):storedH (p::r) k a v=(p.1,p.2.1,v)::r:=by
 unfold storedH atKey
 rw [List.find?_cons,decide_eq_true e,List.map_cons,map_putAt_of_not_mem r k v hn,PySem.putAt,if_pos e]
 rfl
theorem putH_vrs {toV:K'→V} {k:K'} {a:Addr} {v:V} {x:Value} (ha:VR w (toV k) (.ref a)) (hx:VR w v x) {l:List (K'×V)}:∀ {xs:List (K'×Addr×Value)},xs.map (·.1)=l.map (·.1)→(xs.map (·.1)).Nodup →
  VRs w (l.map fun p=>toV p.1) (xs.map fun x=>.ref x.2.1)→VRs w (l.map (·.2)) (xs.map (·.2.2)) →
  (storedH xs k a x).map (·.1)=(dput l k v).map (·.1)∧VRs w ((dput l k v).map fun p=>toV p.1) ((storedH xs k a x).map fun x=>.ref x.2.1)∧VRs w ((dput l k v).map (·.2)) ((storedH xs k a x).map (·.2.2)):=by
 induction l with
 | nil =>
  intro kvs hk _ _ _
  cases List.map_eq_nil_iff.mp hk
  exact⟨rfl,.cons ha .nil,.cons hx .nil⟩
 | cons p l ih =>
  intro kvs hk hn hr hv
  cases kvs with|nil=>cases hk|cons q kvs =>
  have h1:q.1=p.1:=(List.cons.inj hk).1
  have h2:=(List.cons.inj hk).2
  rw [List.map_cons,List.nodup_cons] at hn
  have b1:=(VRs.cut hv).1
  have b2:=(VRs.cut hv).2
  have c1:=(VRs.cut hr).1
  have c2:=(VRs.cut hr).2
  unfold dput
  by_cases e:p.1=k
  ·rw [if_pos e,storedH_hit (h1.trans e) (e▸h1▸hn.1),List.map_cons,List.map_cons,List.map_cons,h1,h2]
   exact⟨rfl,.cons c1 c2,.cons hx b2⟩
  ·rw [if_neg e,storedH_miss fun q=>e (h1▸q)]
   have ih:=ih h2 hn.2 c2 b2
   exact⟨List.cons_eq_cons.mpr ⟨h1,ih.1⟩,.cons c1 ih.2.1,.cons b1 ih.2.2⟩
end
section
variable {W:Setup} {n:Nat} {F:Frame W n} {ρ ρ':Rho} {T T':TH} {w w' w₀:Wd} {Q:PE'} {R:Unit→Shared→Prop} {p q d:E} {l r e e₂:Expr} {pos apos np:Pos} {v x y:V} {z zv xv yv:Value} {ps:List E} {es:List Expr} {f c:Nat} {nm:Str}
theorem DR.nodup {K':Type} [DecidableEq K'] {knd:PySem.KeyKind W.prog W.w K'} {l:List (K'×V)} {a:Addr} {kvs:List (K'×Value)} (D:DR knd w l a kvs):(kvs.map (·.1)).Nodup:=D.d.choose_spec.choose_spec.choose_spec.2.2.2.2.2
theorem put_done {A:Addr→Prop} {o:Nat} {kk:K} {ob ob':O} {pp:Addr×Addr} {G:TH→Prop} {s:Shared} {X:Prop} (S:St W T w) (ht:T[o]?=some (kk,ob)) (hi:w.ads[o]?=some pp) (q:PutY T o kk ob' G) (k':∀ {b x},b≠pp.1→b≠pp.2→w.s.heap.get? b=some x→s.heap.get? b=some x)
  (hg:s.gens=w.s.gens) (hos:s.os=w.s.os) (ho:(∀ {v x},VR w v x→VR ⟨w.ads,s⟩ v x)→(∀ {l xs},VRs w l xs→VRs ⟨w.ads,s⟩ l xs)→OR W ⟨w.ads,s⟩ ob' pp) (c:∀ T' w',G T'→St W T' w'→Le noA w w'→w'.s=s→X):X:=by
 have z:=S.update (k:=kk) (s:=s) hi ht k' hg hos ho
 exact c _ ⟨w.ads,s⟩ (q.ex _ (List.getElem?_set_self (List.getElem?_eq_some_iff.mp ht).1) (chg_set ht)) z.1 z.2 rfl
theorem setItem_exact {A:Around} {s:Shared} {l:Addr} {items:Array Value} {m:Nat} {k:Int} {t:Tok} {v:Value} {Q:Unit→Shared→Prop} {E:Value→Shared→Prop} (ha:s.heap.get? l=some (listOf items m))
  (h0:0≤k) (hfit:k<2 ^ 63) (hn:k<items.size) (hQ:Q () {s with heap:=s.heap.update l (Obj.mapSeq (·.setIfInBounds k.toNat v))}) :
  wpAny W.M A (setItem (.ref l) (.int k t) v) Q E s:=by
 have hl:s.heap.IsList l items:=⟨_,ha,rfl,m,rfl⟩
 obtain⟨o,ho,hc,ne,hd⟩:=id hl
 unfold setItem
 try with_reducible refine wpAny_holding ?_
 first|refine wpAny_bind (wpAny_pure ?_)|skip
 refine wpAny_bind (wpAny_sequenceKey hl.typeIs (by decide) ?_)
 refine wpAny_bind (wpAny_callSpecial?_slot (name:=Str.ofString "__setitem__") hl.typeIs slot_list_setitem
  (wpAny_call_entry slot_list_setitem hl.typeIs entry_list_setitem ?_ (args_list_setitem _ _ _)))
 show wpAny _ _ (Builtin.List.listSubscript? (.int k t) >>= _) _ _ s
 refine wpAny_bind (wpAny_listSubscript_int (fitsIndex_of h0 hfit) ?_)
 clear hfit
 obtain⟨j,rfl⟩:=Int.eq_ofNat_of_zero_le h0
 have hj:j<items.size:=by omega
 have hx':items[j]?=some items[j]:=Array.getElem?_eq_getElem hj
 show wpAny _ _ ((seqItemAt l j >>= fun r=>pure (r.map (j,·))) >>= _) _ _ s
 refine wpAny_bind (wpAny_bind (wpAny_seqItemAt ho hd (wpAny_pure ?_)))
 rw [hx']
 show wpAny _ _ (setSeqItemAt l j v >>= _) _ _ s
 refine wpAny_bind (wpAny_setSeqItemAt ho hd ?_)
 first
  | exact wpAny_bind (wpAny_pure (wpAny_pure ⟨.none,rfl,wpAny_pure hQ⟩))
  | exact wpAny_pure ⟨.none,rfl,wpAny_pure hQ⟩
theorem item_core {o:Nat} {pp:Addr×Addr} {G:TH→Prop} {kx:Value} (hr:Here F ρ T w) (hi:w.ads[o]?=some pp) (q:IdxPut T o v G x) (hk:VR w x kx) (hx:VR w v xv)
  (k:∀ T' w',G T'→Here F ρ T' w'→Le noA w w'→R () w'.s):wpAny W.M F.A (setItem (.ref pp.1) kx xv) R noE w.s:=by
 have S:=hr.st
 have fin:∀ {T':TH} {w':Wd} {s:Shared},G T'→St W T' w'→Le noA w w'→w'.s=s→R () s:=fun q S e hs=>hs▸k _ _ q (hr.ext S e) e
 cases q with
 | @list kk ll i ht hb q =>
  refine VR.on_int hk fun _=>St.on_list S ht hi fun aL vs m hi ha hv=>?_
  ·have hl:(ll.length:Int)=vs.size:=congrArg Nat.cast (len_of hv)
   obtain⟨m',hm'⟩:=seq_at ha (·.setIfInBounds i.toNat xv)
   exact setItem_exact ha hb.1 (by lia) (hl▸hb.2.1) (put_done (A:=noA) (s:={w.s with heap:=w.s.heap.update aL (Obj.mapSeq (·.setIfInBounds i.toNat xv))}) S ht hi q (fun hb _ e=>(Heap.get?_update_ne _ _ _ _ hb).trans e) rfl rfl
    (fun m1 m2=>.list hm' (by rw [Array.toList_setIfInBounds];exact VRs.set (m1 hx) (m2 hv) _)) fun _ _=>fin)
 | @di kk ll i ht hb q =>
  refine VR.on_int hk fun _=>St.on_di S ht hi fun _ _ hi D=>?_
  ·exact wpAny_setItem_pairs (knd:=W.ik) (intKind_is _ _ _ _) D.d (fun h' hd hs=>put_done (A:=noA) (s:={w.s with heap:=h',toks:=w.s.toks+1}) S ht hi q (fun hb _ e=>(hs.2 _ hb).trans e) rfl rfl
    (fun m1 m2=>have z:=put_vrs (k:=i) (m1 hx) D.k D.nodup (m2 D.v);.di ⟨hd,z.1,z.2⟩) fun _ _=>fin) (fit_le (by rw [D.len];exact Nat.le_of_lt hb))
 | @ds kk ll i ht hb q =>
  refine VR.on_str hk fun _=>St.on_ds S ht hi fun _ _ hi D=>?_
  ·exact wpAny_setItem_pairs (knd:=W.sk) (strKind_is _ _ _ _) D.d (fun h' hd hs=>put_done (A:=noA) (s:={w.s with heap:=h',toks:=w.s.toks+1}) S ht hi q (fun hb _ e=>(hs.2 _ hb).trans e) rfl rfl
    (fun m1 m2=>have z:=put_vrs (k:=i) (m1 hx) D.k D.nodup (m2 D.v);.ds ⟨hd,z.1,z.2⟩) fun _ _=>fin) (fit_le (by rw [D.len];exact Nat.le_of_lt hb))
 | @dt kk ll i ht hb q =>
  obtain⟨ka,rfl⟩:=toV_ref hk
  refine St.on_dt S ht hi fun _ _ hi D=>?_
  ·have hlen:=congrArg List.length D.k
   rw [List.length_map,List.length_map] at hlen
   have hnd:=D.d.choose_spec.choose_spec.choose_spec.2.2.2.2.2
   exact wpAny_setItem_heap (knd:=nestKind W.prog W.w) (k:=i) (by show F.A.units+1+10<cLine;have:=F.units;lia) (nkey_is hk) D.d (fun h' hd hs=>put_done (A:=noA) (s:={w.s with heap:=h',toks:=w.s.toks+(nestKind W.prog W.w).draws i}) S ht hi q (fun hb _ e=>(hs.2 _ hb).trans e) rfl rfl
    (fun m1 m2=>have z:=putH_vrs (toV:=NKey.toV) (k:=i) (m1 hk) (m1 hx) D.k hnd (m2 D.t) (m2 D.v);.dt ⟨hd,z.1,z.2.1,z.2.2⟩) fun _ _=>fin) (fit_le (by rw [hlen];exact Nat.le_of_lt hb))
theorem wk_core {o i:Nat} {t:Tok} {pp:Addr×Addr} {G:TH→Prop} (hr:Here F ρ T w) (hi:w.ads[o]?=some pp) (q:WdPut T o i v G) (hn:tab.wks[i]?=some nm) (hx:VR w v xv)
  (k:∀ T' w',G T'→Here F ρ T' w'→Le noA w w'→R () w'.s):wpAny W.M F.A (setItem (.ref pp.1) (.str nm t) xv) R noE w.s:=by
 cases q with|@mk kk fs ht hb q =>
 have hb:=Nat.le_of_ble_eq_true hb
 cases hr.st.obj ht hi with
 | @wd aL kvs _ D hlw =>
  have hkw:=(List.getElem?_eq_some_iff.mp hn).1
  have hl15:=hlw
  rw [wks_ok.2] at hl15
  have hle:(putAt fs i v).length≤tab.wks.length:=by
   rcases Nat.lt_or_ge i fs.length with h|h
   ·rw [putAt_eq (Nat.le_of_lt h),if_pos h,List.length_set];exact hlw
   ·exact Nat.le_trans putAt_length (Nat.lt_of_le_of_lt h hkw)
  exact wpAny_setItem_pairs (knd:=W.sk) (strKind_is _ _ _ _) D.d (fun h' hd hs=>put_done (A:=noA) (s:={w.s with heap:=h',toks:=w.s.toks+1}) hr.st ht hi q (fun hb _ e=>(hs.2 _ hb).trans e) rfl rfl
   (fun m1 m2=>have z:=put_vrs (k:=nm) (m1 hx) D.k D.nodup (m2 D.v);have e:=dput_zip wks_ok.1 (v:=v) hn hb;.wd ⟨hd,e▸z.1,e▸z.2⟩ hle) fun T' w' q S e hs=>hs▸k _ _ q (hr.ext S e) e)
   (fit_le (by rw [D.len,List.length_zip];exact Nat.le_trans (Nat.min_le_right _ _) (Nat.le_trans hl15 (by decide))))
theorem attr_core {o i:Nat} {pp:Addr×Addr} {G:TH→Prop} (hr:Here F ρ T w) (hi:w.ads[o]?=some pp) (q:AttrPut T o c i v G) (hn:(attrsOf c)[i]?=some nm) (hx:VR w v xv)
  (k:∀ T' w',G T'→Here F ρ T' w'→Le noA w w'→R () w'.s):wpAny W.M F.A (setAttr (.ref pp.1) nm xv) R noE w.s:=by
 cases q with|@mk kk fs ht hb q =>
 have hb:=Nat.le_of_ble_eq_true hb
 cases hr.st.obj ht hi with
 | @inst x dx _ _ m vals ha hd hm hv hlen hne =>
  have hkw:=(List.getElem?_eq_some_iff.mp hn).1
  have hle:(putAt fs i v).length≤(attrsOf c).length:=by
   rcases Nat.lt_or_ge i fs.length with h|h
   ·rw [putAt_eq (Nat.le_of_lt h),if_pos h,List.length_set];exact hlen
   ·exact Nat.le_trans putAt_length (Nat.lt_of_le_of_lt h hkw)
  refine set_attr (ns:=attrsOf c) hr.st.inK (.of (W.cok c (attrs_lt hn))) ha hd (List.mem_of_getElem? hn) (fun y hy=>Classical.byContradiction fun h=>hy (by rw [hm];exact lookup_zip_none h)) (Nat.le_trans (attrs_ok c).2 (by decide)) fun h' hN hs=>?_
  refine put_done (A:=noA) (s:={w.s with heap:=h',toks:=w.s.toks+2}) hr.st ht hi q (fun _ hb e=>(hs.2 _ hb).trans e) rfl rfl (fun m1 m2=>?_) fun T' w' q S e hs=>hs▸k _ _ q (hr.ext S e) e
  obtain⟨ys,h1,h2⟩:=putAt_vrs (m1 hx) (m2 hv) hb
  refine .inst ((hs.2 x hne).trans ha) hN (fun y=>?_) h1 hle hne
  rw [hm]
  by_cases e:y∈attrsOf c
  ·obtain⟨j,hj⟩:=List.getElem?_of_mem e
   rw [lookup_zip (attrs_ok c).1 hj,lookup_zip (attrs_ok c).1 hj,h2]
   by_cases e:y=nm
   ·rw [if_pos e,if_pos (nodup_get (attrs_ok c).1 hj (e▸hn))]
   ·rw [if_neg e,if_neg fun (q:j=i)=>e (Option.some.inj (hj.symm.trans (q▸hn)))]
  ·rw [lookup_zip_none e,lookup_zip_none e,if_neg fun (q:y=nm)=>e (q▸List.mem_of_getElem? hn)]
end
end Mine
set_option genInjectivity false
namespace Mine
open PySem PySem.W PySem.Calls PyProof.Rows PySem.Spec
theorem setR_get {v:V} {ρ:Rho}:∀ {i:Nat} {ρ':Rho},setR ρ i v=some ρ'→∀ {j:Nat} {u:V},(ρ'[j]?).join=some u→(j=i∧u=v)∨(j≠i∧(ρ[j]?).join=some u):=by
 induction ρ with
 | nil=>intro i ρ' h;cases h
 | cons a ρ ih =>
  intro i ρ' h j u hj
  cases i with
  | zero =>
   cases h
   cases j with
   | zero=>exact .inl ⟨rfl,(Option.some.inj hj).symm⟩
   | succ j=>exact .inr ⟨Nat.succ_ne_zero j,hj⟩
  | succ i =>
   obtain⟨ρ₁,h1,rfl⟩:=Option.map_eq_some_iff.mp h
   cases j with
   | zero=>exact .inr ⟨(Nat.succ_ne_zero i).symm,hj⟩
   | succ j=>exact (ih h1 hj).imp (fun h=>⟨congrArg (·+1) h.1,h.2⟩) fun h=>⟨fun e=>h.1 (Nat.succ.inj e),h.2⟩
section
variable {W:Setup} {n:Nat} {F:Frame W n} {ρ ρ':Rho} {T T':TH} {w w' w₀:Wd} {Q:PS'} {J:Rho→TH→Prop} {p q d:E} {l r e e₂ te:Expr} {pos apos np:Pos} {v x y:V} {z zv xv yv:Value} {ps:List E} {es:List Expr} {f c i:Nat} {nm:Str} {t:Mine.T} {is:List Nat}
noncomputable abbrev own (F:Frame W n):Addr→Prop:=fun b=>b=F.env.locals
theorem Here.dict (h:Here F ρ T w):Dicts (own F) w.s.heap:=fun b o (e:b=F.env.locals) ho=>by
 subst e
 exact Ns.dict h.f.choose_spec.ns o ho
theorem store_core {R:Unit→Shared→Prop} (hr:Here F ρ T w) (hb:bindsAs F.names F.sc i nm=true) (e:setR ρ i v=some ρ') (hx:VR w v xv) (k:∀ w',Here F ρ' T w'→Le (own F) w w'→w'.ads=w.ads→R () w'.s):wpAny W.M F.A (storeName F.env nm xv) R noE w.s:=by
 simp only [bindsAs,kindIn,Bool.and_eq_true,beq_iff_eq] at hb
 obtain⟨m,hn,ha⟩:=hr.f
 have hl:=F.loc _ hb.2
 refine wpAny_storeName_local hl hn (fun h' hn' hs=>?_) (by rw [F.fn];rfl)
 have x:Le (own F) w ⟨w.ads,{w.s with heap:=h',toks:=w.s.toks+1}⟩:=Le.same (fun {b o} e nb=>(hs.2 b nb).trans e) (fun {b o} e=>by
  by_cases q:b=F.env.locals
  ·obtain⟨o',_,_,ho',_⟩:=hn';exact⟨o',q▸ho'⟩
  ·exact⟨o,(hs.2 b q).trans e⟩) rfl rfl
 have S:=hr.st.extend x rfl hr.dict (fun b o f e=>(hs.2 b fun (q:b=F.env.locals)=>hr.nf (q▸f)).trans e) fun b (q:b=F.env.locals)=>by rw [q];exact F.low
 have mon:=hr.st.mono2 x hr.dict
 refine k ⟨w.ads,_⟩ ⟨⟨_,hn',fun hw=>?_⟩,hr.nf,S⟩ x rfl
 rcases setR_get e hw with ⟨rfl,rfl⟩|⟨hij,hw⟩
 ·exact⟨nm,xv,hb.1,mon.1 hx,.loc hl (if_pos rfl)⟩
 ·obtain⟨y,z,hy,hz,hh⟩:=ha hw
  refine⟨y,z,hy,mon.1 hz,?_⟩
  have hh:=hh.ext x fun c o q ho v hv=>by
   obtain⟨o',_,_,ho',hd,_⟩:=hn
   rw [show c=F.env.locals from q,ho'] at ho;cases ho
   exact nomatch hd.symm.trans hv
  cases hh with
  | loc a b=>exact .loc a ((if_neg fun (q:y=nm)=>hij (nodup_get F.nd hy (q▸hb.1))).trans b)
  | cell a b c d=>exact .cell a b c d
noncomputable def TSnd (F:Frame W n) (t:Mine.T) (te:Expr):Prop:=∀ {ρ:Rho} {T:TH} {w:Wd} {v:V} {xv:Value} {J:Rho→TH→Prop} {R:Unit→Shared→Prop},TV J ρ (CN n) t v T→Here F ρ T w→VR w v xv →
 (∀ ρ' T' w',J ρ' T'→Here F ρ' T' w'→Le (own F) w w'→R () w'.s)→wpAny W.M F.A (assign te F.env xv) R noE w.s
theorem tsnd_loc (hb:bindsAs F.names F.sc i nm=true):TSnd F (.loc i) (.Name nm pos):=fun q hr hx k =>
 GetM.on q fun ρ' e q=>wpAny_assign_Name (store_core hr hb e hx fun w' h x _=>k ρ' _ w' q h x)
theorem tsnd_attr (hn:(attrsOf c)[i]?=some nm) (hp:ESnd F p l):TSnd F (.attr p c i) (.Attribute l nm pos):=fun {ρ T w v xv J R} q hr hx k=>by
 rw [arm_assign_Attribute]
 refine wpAny_bind (wpAny_holding (hp q hr fun y T₁ yv w₁ q₁ r₁ h₁ e₁=>ObjM.on q₁ r₁ fun o pp hi q=>wpAny_bind (wpAny_standAt (wpAny_bind (wpAny_holding ?_)))))
 exact attr_core h₁ hi q hn (hr.st.mono e₁ hx) fun T' w' q h e=>wpAny_release (k ρ T' w' q h (e₁.trans e).any)
theorem tsnd_wk (hn:tab.wks[i]?=some nm) {kk:Nat} {cp:Pos} (hp:ESnd F p l):TSnd F (.wk p i) (.Subscript l (.Constant (.str nm) kk cp) pos):=fun {ρ T w v xv J R} q hr hx k=>by
 rw [arm_assign_Subscript]
 refine wpAny_bind (wpAny_holding (hp q hr fun y T₁ yv w₁ q₁ r₁ h₁ e₁=>ObjM.on q₁ r₁ fun o pp hi q=>wpAny_bind (wpAny_holding (wpAny_Constant_str (wpAny_bind (wpAny_standAt (wpAny_bind (wpAny_holding ?_))))))))
 exact wk_core (w:=⟨w₁.ads,{w₁.s with toks:=w₁.s.toks+1}⟩) (h₁.toks _) hi q hn (hr.st.mono (e₁.trans (.toks _)) hx) fun T' w' q h e=>wpAny_release (k ρ T' w' q h ((e₁.trans (.toks _)).trans e).any)
theorem tsnd_idx (hp:ESnd F p l) (hq:ESnd F q r):TSnd F (.idx p q) (.Subscript l r pos):=fun {ρ T w v xv J R} qq hr hx k=>by
 rw [arm_assign_Subscript]
 refine wpAny_bind (wpAny_holding (hp qq hr fun y T₁ yv w₁ q₁ r₁ h₁ e₁=>ObjM.on q₁ r₁ fun o pp hi q₁=>wpAny_bind (wpAny_holding (hq q₁ h₁ fun x T₂ kv w₂ q₂ r₂ h₂ e₂=>wpAny_bind (wpAny_standAt (wpAny_bind (wpAny_holding ?_)))))))
 exact item_core h₂ (e₂.at_ hi) q₂ r₂ (hr.st.mono (e₁.trans e₂) hx) fun T' w' q h e=>wpAny_release (k ρ T' w' q h ((e₁.trans e₂).trans e).any)
noncomputable def locsIs (ns:List Str) (sc:Scope):List Nat→List Expr→Bool
 | [],l=>none' l
 | i::r,l=>cons' l fun e s=>cE e (nm:=fun x=>bindsAs ns sc i x)&&locsIs ns sc r s
theorem cons'_eq {α:Type} {l:List α} {k:α→List α→Bool} (h:cons' l k=true):∃ a r,l=a::r∧k a r=true:=by
 cases l with
 | nil=>cases h
 | cons a r=>exact⟨a,r,rfl,h⟩
theorem none'_eq {α:Type} {l:List α} (h:none' l=true):l=[]:=by
 cases l with
 | nil=>rfl
 | cons a r=>cases h
theorem name_eq {k:Str→Bool} (h:cE e (nm:=k)=true):∃ x pos,e=.Name x pos∧k x=true :=
 cE.name (P:=fun e=>∃ x pos,e=.Name x pos∧k x=true) h fun x pos q=>⟨x,pos,rfl,q⟩
theorem setLocs_len:∀ {vs:List V} {ρ ρ':Rho},setLocs ρ is vs=some ρ'→is.length=vs.length:=by
 induction is with
 | nil =>
  intro vs ρ ρ' e
  cases vs with
  | nil=>rfl
  | cons _ _=>cases e
 | cons i is ih =>
  intro vs ρ ρ' e
  cases vs with
  | nil=>cases e
  | cons v vs =>
   obtain⟨ρ₁,e1,e2⟩:=Option.bind_eq_some_iff.mp e
   exact congrArg (·+1) (ih e2)
theorem locs_names:∀ {es:List Expr},locsIs F.names F.sc is es=true→∃ nms:List (Str×Pos),is.length=nms.length∧assignEach es F.env=nms.map (fun p=>(false,assign (.Name p.1 p.2) F.env)) ∧
  ∀ {ρ ρ':Rho} {vs:List V} {xs:List Value} {w:Wd} {R:Unit→Shared→Prop},setLocs ρ is vs=some ρ'→Here F ρ T w→VRs w vs xs→(∀ w',Here F ρ' T w'→Le (own F) w w'→R () w'.s)→wpAny W.M F.A (assignInOrder (nms.map fun p=>assign (.Name p.1 p.2) F.env) xs) R noE w.s:=by
 induction is with
 | nil =>
  intro es h
  cases none'_eq h
  refine⟨[],rfl,rfl,fun {ρ ρ' vs xs w R} e hr hx k=>?_⟩
  cases vs with|cons _ _=>cases e|nil =>
  cases e;cases hx;exact wpAny_assignInOrder_none (k _ hr .refl)
 | cons i is ih =>
  intro es h
  obtain⟨e,es,rfl,h⟩:=cons'_eq h
  obtain⟨h1,h2⟩:=Bool.and_eq_true_iff.mp h
  obtain⟨nm,pp,rfl,hb⟩:=name_eq h1
  obtain⟨nms,hl,h3,h4⟩:=ih h2
  refine⟨(nm,pp)::nms,congrArg (·+1) hl,congrArg ((false,assign (.Name nm pp) F.env)::·) h3,fun {ρ ρ' vs xs w R} e hr hx k=>?_⟩
  cases vs with|nil=>cases e|cons v vs =>
  obtain⟨ρ₁,e1,e2⟩:=Option.bind_eq_some_iff.mp e
  refine VRs.on_cons hx fun _ _ a b=>?_
  exact wpAny_assignInOrder_more (wpAny_assign_Name (store_core hr hb e1 a fun w' h x _=>h4 e2 h ((hr.st.mono2 x hr.dict).2 b) fun w₂ h₂ x₂=>k w₂ h₂ (x.trans x₂)))
theorem tup_core {R:Unit→Shared→Prop} {kk:Nat} {vs:List V} (h:locsIs F.names F.sc is es=true) (e:setLocs ρ is vs=some ρ') (hr:Here F ρ T w) (hx:VR w (.tup vs) xv) (k:∀ w',Here F ρ' T w'→Le (own F) w w'→R () w'.s):wpAny W.M F.A (assign (.Tuple es kk pos) F.env xv) R noE w.s:=by
 refine VR.on_tup hx fun t o xs m ho hc hd hrs=>?_
 ·obtain⟨nms,hl,he,go⟩:=locs_names (T:=T) h
  have hlx:nms.length=xs.size:=by rw [←hl,setLocs_len e,len_of hrs]
  refine wpAny_assign_Tuple F.hh (items:=xs) ⟨o,ho,hc,m,hd⟩ (by rw [he,List.length_map];exact hlx) (by rw [he,List.findIdx?_eq_none_iff];intro x hx;obtain⟨_,_,rfl⟩:=List.mem_map.mp hx;rfl) fun h' hx'=>?_
  rw [he,List.map_map]
  have k':∀ {b o},w.s.heap.get? b=some o→h'.get? b=some o:=fun {b o} e=>hx' b o (Nat.ne_of_lt (Heap.lt_size e)) e
  have x:=Le.kept (w:=w) (s:={w.s with heap:=h'}) k' rfl rfl
  exact go (w:=⟨w.ads,{w.s with heap:=h'}⟩) e (hr.ext (hr.st.kept k' rfl rfl) x) ((hr.st.mono2 x .none).2 hrs) fun w' h₂ x₂=>k w' h₂ (x.any.trans x₂)
theorem TupM.on {x:V} {P:List V→Prop} {G:Prop} (q:TupM x P) (k:∀ vs,x=.tup vs→P vs→G):G:=by
 cases x with
 | tup vs=>exact k vs rfl q
 | _=>exact q.elim
theorem tsnd_locs {kk:Nat} (h:locsIs F.names F.sc is es=true):TSnd F (.locs is) (.Tuple es kk pos):=fun q hr hx k =>
 TupM.on q fun vs e q=>by
  subst e
  exact GetM.on q fun ρ' e q=>tup_core h e hr hx fun w' h x=>k ρ' _ w' q h x
noncomputable def flowIs (w:Wd):Option V→Flow→Prop
 | none,.next=>True
 | some v,.ret x=>VR w v x
 | _,_=>False
@[elab_as_elim] theorem flow_next {w:Wd} {f:Flow} {G:Flow→Prop} (h:flowIs w none f) (k:G .next):G f:=by cases f<;>first|exact k|exact h.elim
@[elab_as_elim] theorem flow_ret {w:Wd} {v:V} {f:Flow} {G:Flow→Prop} (h:flowIs w (some v) f) (k:∀ x,VR w v x→G (.ret x)):G f:=by cases f<;>first|exact k _ h|exact h.elim
noncomputable def SSnd (F:Frame W n) (a:S) (t:Stmt):Prop:=∀ {ρ:Rho} {T:TH} {w:Wd} {Q:PS'} {R:Flow→Shared→Prop},SS (CN n) ρ a T Q→Here F ρ T w →
 (∀ o ρ' T' f w',Q (o,ρ') T'→flowIs w' o f→Here F ρ' T' w'→Le (own F) w w'→R f w'.s)→wpAny W.M F.A (exec t F.env) R noE w.s
noncomputable def SsSnd (F:Frame W n) (a:List S) (t:List Stmt):Prop:=∀ {ρ:Rho} {T:TH} {w:Wd} {Q:PS'} {R:Flow→Shared→Prop},SV (CN n) ρ a T Q→Here F ρ T w →
 (∀ o ρ' T' f w',Q (o,ρ') T'→flowIs w' o f→Here F ρ' T' w'→Le (own F) w w'→R f w'.s)→wpAny W.M F.A (PySem.execs t F.env) R noE w.s
theorem each_one (h:notStar te=true) {env:Env}:(assignEach [te] env).map (·.2)=[assign te env]:=by cases te<;>first|rfl|cases h
theorem ssnd_assign (hst:notStar te=true) (hs:∀ env,swapsWithSole [te] l pos.line env=pure false) (hw:∀ env,swappedStores [te] l env=pure none) (ht:TSnd F t te) (hp:ESnd F p l):SSnd F (.assign t p) (.Assign [te] l pos):=fun {ρ T w Q R} q hr k=>by
 refine wpAny_Assign_stores (hp q hr fun x T₁ xv w₁ q₁ r₁ h₁ e₁=>?_) (hs _) (hw _)
 rw [each_one hst]
 exact ht q₁ h₁ r₁ fun ρ' T' w' q h x=>k none ρ' T' .next w' q trivial h (e₁.any.trans x)
theorem ssnd_expr (hs:∀ env,swapsWith l none pos.line env=pure false) (hp:ESnd F p l):SSnd F (.expr p) (.Expr l pos):=fun {ρ T w Q R} q hr k =>
 wpAny_Expr_any (hp q hr fun x T₁ xv w₁ q₁ r₁ h₁ e₁=>k none ρ T₁ .next w₁ q₁ trivial h₁ e₁.any) (by unfold interactive;rw [F.fn];rfl) (hs _)
theorem ssnd_ret (hp:ESnd F p l):SSnd F (.ret p) (.Return (some l) pos):=fun {ρ T w Q R} q hr k =>
 wpAny_Return_some (hp q hr fun x T₁ xv w₁ q₁ r₁ h₁ e₁=>k (some x) ρ T₁ (.ret xv) w₁ q₁ r₁ h₁ e₁.any)
theorem ssnd_ret0:SSnd F (.ret (.lit .none)) (.Return none pos):=fun {ρ T w Q R} q hr k=>wpAny_Return_none (k (some .none) ρ T (.ret .none) w q .none hr .refl)
theorem ssnd_pass:SSnd F .pass (.Pass pos):=fun {ρ T w Q R} q hr k=>wpAny_Pass (k none ρ T .next w q trivial hr .refl)
theorem ssnd_if {x y:List S} {xs ys:List Stmt} (hp:TrSnd F p l) (hx:SsSnd F x xs) (hy:SsSnd F y ys):SSnd F (.ite p x y) (.If l xs ys pos):=fun {ρ T w Q R} q hr k =>
 wpAny_If (hp (P:=kIte _ _ Q) q hr fun b T₁ w₁ q h₁ e₁=>by
  cases b with
  | true=>exact hx (q.1 rfl) h₁ fun o ρ' T' f w' q fl h x=>k o ρ' T' f w' q fl h (e₁.any.trans x)
  | false=>exact hy (q.2 rfl) h₁ fun o ρ' T' f w' q fl h x=>k o ρ' T' f w' q fl h (e₁.any.trans x))
theorem sssnd_nil:SsSnd F [] []:=fun {ρ T w Q R} q hr k=>wpAny_execs_nil (k none ρ T .next w q trivial hr .refl)
theorem sssnd_cons {x:S} {xs:List S} {y:Stmt} {ys:List Stmt} (h1:SSnd F x y) (h2:SsSnd F xs ys):SsSnd F (x::xs) (y::ys):=fun {ρ T w Q R} q hr k =>
 wpAny_execs_cons (h1 q hr fun o ρ₁ T₁ f w₁ q fl h₁ e₁=>by
  cases o with
  | none =>
   refine flow_next fl ?_
   exact h2 q h₁ fun o ρ' T' f w' q fl h x=>k o ρ' T' f w' q fl h (e₁.trans x)
  | some v=>exact flow_ret fl fun _ fl=>k (some v) ρ₁ T₁ _ w₁ q fl h₁ e₁)
theorem aug_core {op:Bop} {i j k:Int} {t u:Tok} {A:Around} {s:Shared} {R:Value→Shared→Prop} (ho:augOk op=true) (hi:intOp op i j=some k) (h:∀ t tk,R (.int k t) {s with toks:=tk}) :
  wpAny W.M A (inplaceOp (opOf op) (.int i t) (.int j u)) R noE s:=by
 cases op<;>first|cases ho|skip
 ·cases hi;exact PyProof.Rows.iadd_int (h _ _)
 ·cases hi;exact PyProof.Rows.isub_int (h _ _)
theorem ssnd_augl {op:Bop} (hb:bindsAs F.names F.sc i nm=true) (hpl:plainName nm=true) (hp:ESnd F p l):SSnd F (.augl i op p) (.AugAssign (.Name nm np) (opOf op) l pos):=fun {ρ T w Q R} q hr k =>
 GetM.on q.2 fun v e q'=>wpAny_AugAssign_Name (load_at hr e (beq_iff_eq.mp (Bool.and_eq_true_iff.mp hb).1) hpl fun z hz=>hp q' hr fun y T₁ yv w₁ q₁ r₁ h₁ e₁=>IntM.on q₁ (hr.st.mono e₁ hz) fun i t q₁=>IntM.on q₁ r₁ fun j u q₁=>GetM.on q₁ fun m hm q₁=>GetM.on q₁ fun ρ' he q₁ =>
  aug_core q.1 hm fun t tk=>store_core (w:=⟨w₁.ads,{w₁.s with toks:=tk}⟩) (h₁.toks tk) hb he (.int m t) fun w' h x _=>k none ρ' T₁ .next w' q₁ trivial h ((e₁.trans (.toks tk)).any.trans x))
theorem ssnd_auga {op:Bop} (hn:(attrsOf c)[i]?=some nm) (hp:ESnd F p l) (hq:ESnd F q e):SSnd F (.auga p c i op q) (.AugAssign (.Attribute l nm np) (opOf op) e pos):=fun {ρ T w Q R} qq hr k =>
 wpAny_AugAssign_AttributeAny (hp qq.2 hr fun x T₁ xv w₁ q₁ r₁ h₁ e₁=>ObjM.on q₁ r₁ fun o pp hi q₁=>fld_core (P:=fun x=>EV (CN n) ρ q T₁ (kAugA2 (fun ρ T=>Q (none,ρ) T) ρ c i o op x)) h₁.st hi hn q₁ fun v zv q₁ hz=>hq q₁ (h₁.toks (w₁.s.toks+1)) fun y T₂ yv w₂ q₂ r₂ h₂ e₂ =>
  IntM.on q₂ (h₁.st.mono ((Le.toks _).trans e₂) hz) fun a t q₂=>IntM.on q₂ r₂ fun b u q₂=>GetM.on q₂ fun m hm q₂=>aug_core qq.1 hm fun t tk=>attr_core (w:=⟨w₂.ads,{w₂.s with toks:=tk}⟩) (h₂.toks tk) (e₂.at_ hi) q₂ hn (.int m t) fun T' w' q h e=>k none ρ T' .next w' q trivial h (((e₁.trans (.toks _)).trans e₂).trans ((Le.toks tk).trans e)).any)
end
end Mine
set_option genInjectivity false
namespace Mine
open PySem PySem.W PySem.Calls PyProof.Rows PySem.Spec
section
variable {W:Setup} {n:Nat} {F:Frame W n} {ρ ρ':Rho} {T T':TH} {w w' w₀ w₁:Wd} {p q d:E} {l r e e₂ te:Expr} {pos apos np cp:Pos} {v x y:V} {z zv xv yv:Value} {nm:Str} {tg:List Nat} {bs:List S} {xs:List Stmt} {X:Addr→Prop} {s:Shared} {I:Addr}
theorem Here.but (hr:Here F ρ T w) (hd:∀ o,w.s.heap.get? I=some o→(∀ vs n,o.data≠.seq vs n)∧∀ v,o.data≠.cell v) (hL:I≠F.env.locals) (k:∀ {b o},b≠I→w.s.heap.get? b=some o→s.heap.get? b=some o) (hf:¬ foot w I) (hn:W.g.get? I=none) :
  Here F ρ T ⟨w.ads,s⟩∧(∀ {v x},VR w v x→VR ⟨w.ads,s⟩ v x):=by
 have mon:=VR.mono2 (w:=w) (w':=⟨w.ads,s⟩) id fun b o e _ ⟨vs,m,h⟩=>⟨k (fun q=>(hd o (q▸e)).1 vs m h) e,id⟩
 obtain⟨m,⟨oL,es,ep,hoL,rn⟩,ha⟩:=hr.f
 have S:=hr.st
 refine⟨⟨⟨m,⟨oL,es,ep,k (Ne.symm hL) hoL,rn⟩,fun hv=>?_⟩,hr.nf,⟨S.len,S.sep,fun e hp=>(S.obj e hp).at (fun ob=>k fun q=>hf (q▸(foot_of hp).1)) (fun ob=>k fun q=>hf (q▸(foot_of hp).2)) fun _ _=>mon.2,fun e=>k (fun q=>absurd_get e (q▸hn)) (S.base e),S.off⟩⟩,mon.1⟩
 obtain⟨y,z,hy,hz,hh⟩:=ha hv
 exact⟨y,z,hy,mon.1 hz,hh.mono fun c o v e h d=>⟨k (fun q=>(hd o (q▸e)).2 v h) e,d⟩⟩
theorem fields_not {ob:Obj} {vs:Array Value} (ho:w.s.heap.get? I=some ob) (hd:ob.data=.fields vs):∀ o,w.s.heap.get? I=some o→(∀ vs n,o.data≠.seq vs n)∧∀ v,o.data≠.cell v:=fun o e=>by
 rw [ho] at e;cases e;exact⟨fun _ _ q=>(nomatch hd.symm.trans q),fun _ q=>(nomatch hd.symm.trans q)⟩
theorem Le.behind (x:Le X w₀ w) (k:∀ {b o},b≠I→w.s.heap.get? b=some o→s.heap.get? b=some o) (hg:s.gens=w.s.gens) (hos:s.os=w.s.os) (hI:w₀.s.heap.get? I=none):Le X w₀ ⟨w.ads,s⟩ :=
 have ne:∀ {b o},w₀.s.heap.get? b=some o→b≠I:=fun e q=>absurd_get e (q▸hI)
 ⟨x.at_,fun e n nx=>k (ne e) (x.keep e n nx),fun e=>⟨_,k (ne e) (x.stay e).choose_spec⟩,x.new,hg.trans x.gens,hos.trans x.os⟩
theorem noE.up {α:Type} {M:Model} {A:Around} {E:Value→Shared→Prop} {m:Sem α} {Q:α→Shared→Prop} (h:wpAny M A m Q noE s):wpAny M A m Q E s:=wpAny_mono h (fun _ _ q=>q) fun _ _ f=>f.elim
theorem noE.up2 {α β:Type} {M:Model} {A:Around} {E:Value→Shared→Prop} {m:Sem α} {g:α→Sem β} {Q:β→Shared→Prop} (h:wpAny M A m (fun a s=>wpAny M A (g a) Q noE s) noE s):wpAny M A m (fun a s=>wpAny M A (g a) Q E s) E s:=wpAny_mono h (fun _ _ q=>noE.up q) fun _ _ f=>f.elim
theorem let_iter {M:Model} {A:Around} {target:Expr} {o:Obj} {cn:String} {v:Value} {Q:Unit→Shared→Prop} {E:Value→Shared→Prop} (ho:s.heap.get? I=some o) (hc:o.cls=.type cn)
  (hn:["enumerate","zip","dict_itemiterator","dict_reverseitemiterator","odict_iterator","itertools.zip_longest","itertools.pairwise"].contains cn=false) (h:Q () s):wpAny M A (letOwnedTupleGo target (.ref I) v) Q E s:=by
 have body:wpAny M A (do
   let (.ref r,.ref a):=(Value.ref I,v)|return
   let o ←load r
   match o.cls,o.data with
   | .type n,.fields vs =>
    if ["enumerate","zip","dict_itemiterator","dict_reverseitemiterator","odict_iterator","itertools.zip_longest","itertools.pairwise"].contains n&&vs[0]?==some (rawInt a) then
     rule "for.unpacks-the-owned-tuple"
     updateField r 0 .none
   | _,_=>pure ()) Q E s:=by
  cases v with
  | ref a =>
   refine wpAny_bind (wpAny_load ho ?_)
   rw [hc]
   cases o.data with
   | fields vs =>
    dsimp only
    rw [hn,Bool.false_and]
    exact wpAny_pure h
   | _=>exact wpAny_pure h
  | _=>exact wpAny_pure h
 cases target<;>first|exact body|exact wpAny_pure h
noncomputable def BindSnd (F:Frame W n) (t:List Nat) (te:Expr):Prop:=∀ {ρ ρ':Rho} {T:TH} {w:Wd} {v:V} {xv:Value} {R:Unit→Shared→Prop},setTarget ρ t v=some ρ'→Here F ρ T w→VR w v xv →
 (∀ w',Here F ρ' T w'→Le (own F) w w'→R () w'.s)→wpAny W.M F.A (assign te F.env xv) R noE w.s
theorem bind_name {i:Nat} (hb:bindsAs F.names F.sc i nm=true):BindSnd F [i] (.Name nm pos):=fun e hr hx k=>wpAny_assign_Name (store_core hr hb e hx fun w' h x _=>k w' h x)
theorem bind_tup {kk:Nat} {es:List Expr} (h2:2≤tg.length) (h:locsIs F.names F.sc tg es=true):BindSnd F tg (.Tuple es kk pos):=fun {ρ ρ' T w v xv R} e hr hx k=>by
 cases tg with|nil=>cases h2|cons i r =>
 cases r with|nil=>exact absurd h2 (Nat.lt_irrefl 1)|cons i2 r =>
 cases v with
 | tup vs=>exact tup_core h e hr hx k
 | _=>cases e
theorem Here.not_own (hr:Here F ρ T w) (h:w.s.heap.get? I=none):¬ own F I:=fun (q:I=F.env.locals)=>by
 obtain⟨m,⟨o,es,ep,ho,_⟩,_⟩:=hr.f
 exact absurd_get ho (q▸h)
theorem LiveY.list {o m j:Nat} {P:V→Prop} {D:Prop} (h:LiveY T o m j P D):∃ k l,T[o]?=some (k,.list l):=by cases h<;>exact⟨_,_,by assumption⟩
structure LoopS (F:Frame W n) (w:Wd) (I:Addr) (ρ:Rho) (T:TH) (w':Wd) (s':Shared):Prop where
 s:w'.s=s'
 h:Here F ρ T w'
 e:Le (own F) w w'
 nf:¬ foot w' I
noncomputable abbrev LoopR (F:Frame W n) (R:Flow→Shared→Prop):Result→Shared→Prop:=fun z s'=>match z with|.ok f=>R f s'|.error e=>cameBackBy W.M F.A F.env noE e s'
theorem loop_list {o:Nat} {pp:Addr×Addr} {Q:PS'} {R:Flow→Shared→Prop} {m:Nat} {Iv:Nat→Rho→TH→Prop} (ht:BindSnd F tg te) (hb:SsSnd F bs xs) (hI:w.s.heap.get? I=none) (h0:Iv 0 ρ T) (hi:w.ads[o]?=some pp)
  (hs:∀ j ρ T,Iv j ρ T→LiveY T o m j (fun x=>GetM (setTarget ρ tg x) fun ρ=>SV (CN n) ρ bs T (TurnQ (Iv (j+1)) Q)) (Q (none,ρ) T)) (hr:Here F ρ T w) (L:LoopS F w I ρ T w₁ s) (hit:s.heap.IsListIter I pp.1 0)
  (k:∀ o ρ' T' f w',Q (o,ρ') T'→flowIs w' o f→Here F ρ' T' w'→Le (own F) w w'→R f w'.s) :
  codeAny W.M F.A (.forLoop te (.ref I) xs [] F.env) (LoopR F R) s:=by
 have hno:=hr.not_own hI
 have hgI:=hr.st.gnone hI
 refine codeAny_forLoop_any (fun k' s'=>∃ j ρ T w',k'=m-j∧Iv j ρ T∧LoopS F w I ρ T w' s'∧s'.heap.IsListIter I pp.1 j) ?_ (m-0) ⟨0,ρ,T,w₁,rfl,h0,L,hit⟩
 rintro _ _ ⟨j,ρ₁,T₁,w₂,rfl,hv,⟨rfl,h₂,e₂,nf⟩,⟨oI,hoI,hcI,hdI⟩⟩
 cases hs j ρ₁ T₁ hv with
 | done hl hlen q =>
  cases h₂.st.obj hl (e₂.at_ hi) with
  | @list aL vs m _ ha hv =>
   refine wpAny_pyNext_list_end F.hh ⟨oI,hoI,hcI,hdI⟩ ⟨_,ha,rfl,m,rfl⟩ (by rw [Array.getElem?_eq_none];rw [←len_of hv];exact hlen) fun h' hk=>?_
   exact wpAny_execs_nil (k none ρ₁ T₁ .next ⟨w₂.ads,{w₂.s with heap:=h'}⟩ q trivial (h₂.but (fields_not hoI hdI) hno (fun hb e=>hk _ _ hb e) nf hgI).1 (e₂.behind (fun hb e=>hk _ _ hb e) rfl rfl hI))
 | item hl hx hj q =>
  cases h₂.st.obj hl (e₂.at_ hi) with
  | @list aL vs mm _ ha hv =>
   obtain⟨xv,hxv,hxr⟩:=hv.get hx
   refine wpAny_pyNext_list_item ⟨oI,hoI,hcI,hdI⟩ ⟨_,ha,rfl,mm,rfl⟩ (x:=xv) (by rw [←Array.getElem?_toList];exact hxv) fun h' ⟨oI',hoI',hcI',hdI'⟩ hs'=>?_
   have kk:∀ {b o},b≠I→w₂.s.heap.get? b=some o→h'.get? b=some o:=fun hb e=>(hs'.2 _ hb).trans e
   have z:=h₂.but (s:={w₂.s with heap:=h'}) (fields_not hoI hdI) hno kk nf hgI
   refine let_iter (s:={w₂.s with heap:=h'}) hoI' hcI' (by decide) (GetM.on q fun ρ₂ he q=>?_)
   refine noE.up2 (ht (w:=⟨w₂.ads,{w₂.s with heap:=h'}⟩) he z.1 (z.2 hxr) fun w₃ h₃ e₃=>hb q h₃ fun o ρ' T' f w' q fl h x=>?_)
   have x₃:=e₃.trans x
   have e':=(e₂.behind (s:={w₂.s with heap:=h'}) kk rfl rfl hI).trans x₃
   cases o with
   | none =>
    refine flow_next fl ?_
    exact⟨m-(j+1),by omega,j+1,ρ',T',w',rfl,q,⟨rfl,h,e',x₃.off hoI' nf⟩,⟨oI',x₃.keep hoI' nf hno,hcI',hdI'⟩⟩
   | some v=>exact flow_ret fl fun _ fl=>k (some v) ρ' T' _ w' q fl h e'
theorem loop_range {i m:Nat} {Q:PS'} {R:Flow→Shared→Prop} {Iv:Nat→Rho→TH→Prop} (ht:BindSnd F [i] te) (hb:SsSnd F bs xs) (hI:w.s.heap.get? I=none) (h0:Iv 0 ρ T)
  (hs:∀ j ρ T,Iv j ρ T→j<m→GetM (setR ρ i (.int j)) fun ρ=>SV (CN n) ρ bs T (TurnQ (Iv (j+1)) Q)) (hq:∀ ρ T,Iv m ρ T→Q (none,ρ) T) (hr:Here F ρ T w) (L:LoopS F w I ρ T w₁ s) (hit:IsRangeIter s.heap I 0 m 1)
  (k:∀ o ρ' T' f w',Q (o,ρ') T'→flowIs w' o f→Here F ρ' T' w'→Le (own F) w w'→R f w'.s) :
  codeAny W.M F.A (.forLoop te (.ref I) xs [] F.env) (LoopR F R) s:=by
 have hno:=hr.not_own hI
 have hgI:=hr.st.gnone hI
 refine codeAny_forLoop_any (fun k' s'=>∃ j ρ T w',k'+j=m∧Iv j ρ T∧LoopS F w I ρ T w' s'∧IsRangeIter s'.heap I j k' 1) ?_ m ⟨0,ρ,T,w₁,rfl,h0,L,hit⟩
 rintro k' _ ⟨j,ρ₁,T₁,w₂,hm,hv,⟨rfl,h₂,e₂,nf⟩,hoI⟩
 cases k' with
 | zero =>
  have hm:j=m:=(Nat.zero_add j).symm.trans hm
  refine wpAny_pyNext_range_end F.hh hoI (Int.le_refl _) fun h' hk=>?_
  exact wpAny_execs_nil (k none ρ₁ T₁ .next ⟨w₂.ads,{w₂.s with heap:=h'}⟩ (hq _ _ (hm▸hv)) trivial (h₂.but (fields_not hoI rfl) hno (fun hb e=>hk _ _ hb e) nf hgI).1 (e₂.behind (fun hb e=>hk _ _ hb e) rfl rfl hI))
 | succ k' =>
  refine wpAny_pyNext_range_item hoI (by lia) fun h' hit' hs'=>?_
  have kk:∀ {b o},b≠I→w₂.s.heap.get? b=some o→h'.get? b=some o:=fun hb e=>(hs'.2 _ hb).trans e
  have z:=h₂.but (s:={w₂.s with heap:=h',toks:=w₂.s.toks+1}) (fields_not hoI rfl) hno kk nf hgI
  rw [show ((j:Int)+1)=((j+1:Nat):Int) by lia,show ((k'+1:Nat):Int)-1=(k':Nat) by lia] at hit'
  refine let_iter (s:={w₂.s with heap:=h',toks:=w₂.s.toks+1}) hit' rfl (by decide) (GetM.on (hs j ρ₁ T₁ hv (by lia)) fun ρ₂ he q=>?_)
  refine noE.up2 (ht (w:=⟨w₂.ads,{w₂.s with heap:=h',toks:=w₂.s.toks+1}⟩) he z.1 (.int j _) fun w₃ h₃ e₃=>hb q h₃ fun o ρ' T' f w' q fl h x=>?_)
  have x₃:=e₃.trans x
  have e':=(e₂.behind (s:={w₂.s with heap:=h',toks:=w₂.s.toks+1}) kk rfl rfl hI).trans x₃
  cases o with
  | none =>
   refine flow_next fl ?_
   exact⟨k',Nat.lt_succ_self _,j+1,ρ',T',w',by lia,q,⟨rfl,h,e',x₃.off hit' nf⟩,x₃.keep hit' nf hno⟩
  | some v=>exact flow_ret fl fun _ fl=>k (some v) ρ' T' _ w' q fl h e'
theorem folded_of {env:Env} (h:notSet l=true):∀ x,foldedSetIterable l env x=pure x:=by intro x;cases l<;>first|rfl|cases h
theorem Here.pushed (hr:Here F ρ T w) {ob:Obj} {t:Nat}:Here F ρ T ⟨w.ads,{w.s with heap:=w.s.heap.push ob,toks:=t}⟩∧Le noA w ⟨w.ads,{w.s with heap:=w.s.heap.push ob,toks:=t}⟩ :=
 have x:=Le.kept (w:=w) (s:={w.s with heap:=w.s.heap.push ob,toks:=t}) (fun e=>Heap.get?_push_of_some _ e) rfl rfl
 ⟨hr.ext (hr.st.kept (fun e=>Heap.get?_push_of_some _ e) rfl rfl) x,x⟩
theorem ssnd_for (ht:BindSnd F tg te) (hns:notSet l=true) (hp:ESnd F p l) (hb:SsSnd F bs xs):SSnd F (.forI tg p bs) (.For te l xs [] pos):=fun {ρ T w Q R} q hr k=>by
 refine wpAny_For (hp q hr fun x T₁ xv w₁ q₁ r₁ h₁ e₁=>?_) (folded_of hns)
 have hI:=get_size w₁.s.heap
 cases q₁ with
 | empty q =>
  refine VR.on_tup r₁ fun tt o vs m ho hc hd hr'=>?_
  ·obtain⟨L⟩:=vs
   cases hr'
   refine wpAny_pyIter_tuple (items:=⟨[]⟩) ⟨o,ho,hc,m,hd⟩ ?_
   show codeAny W.M F.A _ _ _
   have z:=h₁.pushed (ob:={cls:=.type "tuple_iterator",data:=.fields #[.ref tt,.int 0 0]}) (t:=w₁.s.toks)
   refine codeAny_forLoop_any (fun k' s'=>s'={w₁.s with heap:=w₁.s.heap.push {cls:=.type "tuple_iterator",data:=.fields #[.ref tt,.int 0 0]},toks:=w₁.s.toks}) ?_ 0 rfl
   rintro k' s' rfl
   refine wpAny_pyNext_tuple_end F.hh (it:=w₁.s.heap.objs.size) (t:=tt) (i:=0) (items:=⟨[]⟩) ⟨_,Heap.get?_push_size _ rfl,rfl,rfl⟩ ⟨o,Heap.get?_push_of_some _ ho,hc,m,hd⟩ rfl fun h' hk=>?_
   exact wpAny_execs_nil (k none ρ T₁ .next ⟨w₁.ads,{w₁.s with heap:=h'}⟩ q trivial (z.1.but (s:={w₁.s with heap:=h'}) (fields_not (Heap.get?_push_size _ rfl) rfl) (h₁.not_own hI) (fun hb e=>hk _ _ hb e) (h₁.st.not_foot hI) (h₁.st.gnone hI)).1
    (e₁.any.trans (z.2.any.behind (s:={w₁.s with heap:=h'}) (fun hb e=>hk _ _ hb e) rfl rfl hI)))
 | list m Iv h0 hs =>
  obtain⟨kk,ll,hl⟩:=(hs 0 ρ T₁ h0).list
  refine VR.on_obj r₁ fun pp hi=>St.on_list h₁.st hl hi fun aL vs mm hi ha hv=>?_
  ·
    refine wpAny_pyIter_list ⟨_,ha,rfl,mm,rfl⟩ ?_
    have z:=h₁.pushed (ob:={cls:=.type "list_iterator",data:=.fields #[.ref aL,.int 0 0]}) (t:=w₁.s.toks)
    exact loop_list (R:=R) ht hb hI h0 hi hs h₁ ⟨rfl,z.1,z.2.any,(h₁.st.not_foot hI)⟩ ⟨_,Heap.get?_push_size _ rfl,rfl,rfl⟩ fun o ρ' T' f w' q fl h x=>k o ρ' T' f w' q fl h (e₁.any.trans x)
theorem ssnd_range {i:Nat} (ht:BindSnd F [i] te) (hg:globalAs F.sc (Str.ofString "range")=true) (hs:notStar l=true) (hp:ESnd F p l) (hb:SsSnd F bs xs):SSnd F (.forR i p bs) (.For te (.Call (.Name (Str.ofString "range") np) [l] [] cp) xs [] pos):=fun {ρ T w Q R} q hr k=>by
 refine wpAny_For (name_call1 hr hg (W.blt _ _ (.tail _ (.tail _ (.head _)))) hs ?_) fun _=>rfl
 refine PySem.callWith_type rfl (evalArgs_plain (spliced_cons (hp q hr fun x T₁ xv w₁ q₁ r₁ h₁ e₁=>spliced_nil ?_)))
 cases q₁ with
 | @mk m Iv hm h0 hs hq =>
  refine VR.on_int r₁ fun tok=>?_
  ·have hlim:m≤100000:=hm
   show wpAny _ _ (call (.type "range") [.int m tok]) _ _ _
   refine call_range_1 ?_
   have z:=h₁.pushed (ob:={cls:=.type "range",data:=.fields #[.int 0 w₁.s.toks,.int m tok,.int 1 (w₁.s.toks+1)]}) (t:=w₁.s.toks+1+1)
   refine wpAny_pyIter_range (s:={w₁.s with heap:=w₁.s.heap.push {cls:=.type "range",data:=.fields #[.int 0 w₁.s.toks,.int m tok,.int 1 (w₁.s.toks+1)]},toks:=w₁.s.toks+1+1}) (IsRange.new _ _ _ _ _ _ _) (small_one (by decide) (by decide) (by lia) (by lia)) ?_
   have z₂:=z.1.pushed (ob:={cls:=.type "range_iterator",data:=.fields #[rawInt 0,rawInt (Builtin.Range.rangeSize 0 m 1),rawInt 1]}) (t:=w₁.s.toks+1+1)
   have hsz:Builtin.Range.rangeSize 0 m 1=(m:Int):=by rw [rangeSize_one];split<;>lia
   have hI:=get_size (w₁.s.heap.push {cls:=.type "range",data:=.fields #[.int 0 w₁.s.toks,.int m tok,.int 1 (w₁.s.toks+1)]})
   refine loop_range (R:=R) (w:=⟨w₁.ads,{w₁.s with heap:=w₁.s.heap.push {cls:=.type "range",data:=.fields #[.int 0 w₁.s.toks,.int m tok,.int 1 (w₁.s.toks+1)]},toks:=w₁.s.toks+1+1}⟩) ht hb hI h0 (fun j ρ T h hj=>hs j ρ T h hj) hq z.1 ⟨rfl,z₂.1,z₂.2.any,z.1.st.not_foot hI⟩ ?_ fun o ρ' T' f w' q fl h x=>k o ρ' T' f w' q fl h ((e₁.trans z.2).any.trans x)
   conv=>arg 4;rw [←hsz]
   exact Heap.get?_push_size _ rfl
theorem ssnd_while (hp:TrSnd F p l) (hb:SsSnd F bs xs):SSnd F (.while p bs) (.While l xs [] pos):=fun {ρ T w Q R} ⟨⟨Iv,h0,hs⟩⟩ hr k=>by
 refine wpAny_While ?_
 show codeAny W.M F.A _ _ _
 refine codeAny_whileLoop (fun m s'=>∃ ρ T w',w'.s=s'∧Iv m ρ T∧Here F ρ T w'∧Le (own F) w w') ?_ _ ⟨ρ,T,w,rfl,h0,hr,.refl⟩
 rintro m _ ⟨ρ₁,T₁,w₁,rfl,hI,h₁,e₁⟩
 obtain⟨J,hJ,q⟩:=hs m ρ₁ T₁ hI
 refine noE.up (hp (P:=kWhile J _ Q ρ₁) q h₁ fun c T₂ w₂ q h₂ e₂=>?_)
 cases c with
 | true =>
  rw [if_pos rfl]
  refine noE.up (hb (q.1 rfl) h₂ fun o ρ' T' f w' q fl h x=>?_)
  cases o with
  | none =>
   refine flow_next fl ?_
   obtain⟨m',hm,hI'⟩:=hJ ρ' T' q
   exact⟨m',hm,ρ',T',w',rfl,hI',h,(e₁.trans e₂.any).trans x⟩
  | some v=>exact flow_ret fl fun _ fl=>k (some v) ρ' T' _ w' q fl h ((e₁.trans e₂.any).trans x)
 | false =>
  rw [if_neg Bool.false_ne_true]
  exact wpAny_execs_nil (k none ρ₁ T₂ .next w₂ (q.2 rfl) trivial h₂ (e₁.trans e₂.any))
end
end Mine
set_option genInjectivity false
namespace Mine
open PySem PySem.W PySem.Calls PyProof.Rows PySem.Spec
theorem closure_ok {env:Env}:∀ (names:List (Str×NameKind)) (acc:List (Str×Addr)),(∀ x∈names,x.2=.free→∃ c,env.cells.lookup x.1=some c)→(∀ p∈acc,env.cells.lookup p.1=some p.2) →
  ∃ cl,(forIn (m:=Sem) names acc fun x r=>if (x.2==NameKind.free)=true then do let a ←cellOf env x.1;pure (ForInStep.yield ((x.1,a)::r)) else pure (ForInStep.yield r))=pure cl∧(∀ p∈cl,env.cells.lookup p.1=some p.2) ∧
   (∀ p∈acc,p∈cl)∧∀ x∈names,x.2=.free→∃ c,(x.1,c)∈cl:=by
 intro names
 induction names with
 | nil=>exact fun acc _ ha=>⟨acc,rfl,ha,fun _ h=>h,fun _ h=>nomatch h⟩
 | cons p r ih =>
  intro acc hn ha
  have pb:∀ {α β:Type} (a:α) (f:α→Sem β),(pure a >>= f)=f a:=fun _ _=>rfl
  rw [List.forIn_cons]
  cases hk:p.2==NameKind.free with
  | true =>
   obtain⟨c,hc⟩:=hn p (.head _) (eq_of_beq hk)
   have e:cellOf env p.1=pure c:=by unfold cellOf;rw [hc]
   simp only [if_true,e,pb]
   obtain⟨cl,h1,h2,h3,h4⟩:=ih ((p.1,c)::acc) (fun x hx=>hn x (.tail _ hx)) fun q hp=>(List.mem_cons.mp hp).elim (fun e=>by rw [e];exact hc) (ha q)
   exact⟨cl,h1,h2,fun q hp=>h3 q (.tail _ hp),fun x hx hf=>(List.mem_cons.mp hx).elim (fun e=>⟨c,e▸h3 _ (.head _)⟩) fun hx=>h4 x hx hf⟩
  | false =>
   simp only [Bool.false_eq_true,if_false,pb]
   obtain⟨cl,h1,h2,h3,h4⟩:=ih acc (fun x hx=>hn x (.tail _ hx)) ha
   exact⟨cl,h1,h2,h3,fun x hx hf=>(List.mem_cons.mp hx).elim (fun e=>by rw [←e,hf] at hk;cases hk) fun hx=>h4 x hx hf⟩
theorem mem_lookup_some {α:Type} {l:List (Str×α)} {n:Str} {c:α}:(n,c)∈l→∃ c',l.lookup n=some c':=by
 induction l with
 | nil=>exact fun h=>nomatch h
 | cons p r ih =>
  intro h
  rw [List.lookup_cons]
  cases e:n==p.1 with
  | true=>exact⟨_,rfl⟩
  | false=>exact (List.mem_cons.mp h).elim (fun h=>by rw [←h,beq_self_eq_true] at e;cases e) ih
theorem closureFor_ok {scope:Scope} {env:Env} (h:∀ x∈scope.names,x.2=.free→∃ c,env.cells.lookup x.1=some c) :
  ∃ cl,closureFor scope env=pure cl∧∀ x∈scope.names,x.2=.free→cl.lookup x.1=env.cells.lookup x.1:=by
 obtain⟨cl,h1,h2,_,h4⟩:=closure_ok scope.names [] h fun _ hp=>nomatch hp
 refine⟨cl,?_,fun x hx hf=>?_⟩
 ·unfold closureFor
  have:(forIn (m:=Sem) scope.names ([]:List (Str×Addr)) fun x r=>match x with|(name,kind)=>if (kind==NameKind.free)=true then do let a ←cellOf env name;pure (ForInStep.yield ((name,a)::r)) else pure (ForInStep.yield r))=pure cl:=h1
  show ((forIn (m:=Sem) scope.names ([]:List (Str×Addr)) fun x r=>match x with|(name,kind)=>if (kind==NameKind.free)=true then do let a ←cellOf env name;pure (ForInStep.yield ((name,a)::r)) else pure (ForInStep.yield r)) >>= fun s=>pure s)=pure cl
  rw [this]
  rfl
 ·obtain⟨c,hc⟩:=h4 x hx hf
  obtain⟨c',hc'⟩:=mem_lookup_some hc
  rw [hc',h2 _ (mem_of_lookup hc')]
theorem relabel_get {env:Env} {x:Str} {kd:NameKind}:∀ {names:List (Str×NameKind)},names.lookup x=some kd →
  (names.map fun (n,k)=>if (k==NameKind.free&&env.scope.kind==.function&&env.kindOf n==some .cell) then (n,NameKind.cell) else (n,k)).lookup x=some (if (kd==NameKind.free&&env.scope.kind==.function&&env.kindOf x==some .cell) then NameKind.cell else kd):=by
 intro names
 induction names with
 | nil=>exact fun h=>nomatch h
 | cons p r ih =>
  intro h
  obtain⟨m,k⟩:=p
  rw [List.map_cons]
  show List.lookup x ((if (k==NameKind.free&&env.scope.kind==.function&&env.kindOf m==some .cell)=true then (m,NameKind.cell) else (m,k))::_)=_
  rw [List.lookup_cons] at h
  cases hx:x==m with
  | true =>
   rw [hx] at h
   cases h
   cases eq_of_beq hx
   split<;>exact (by rw [List.lookup_cons,beq_self_eq_true])
  | false =>
   rw [hx] at h
   split<;>exact (by rw [List.lookup_cons,hx];exact ih h)
structure CompOk (sc isc:Scope) (caps targets:List Str):Prop where
 kind:isc.kind=.function
 nocell:∀ x∈isc.names,x.2≠.cell
 loc:∀ x∈isc.names,x.2=.local→isc.names.lookup x.1=some .local
 free:∀ x∈isc.names,x.2=.free→isc.names.lookup x.1=some .free∧x.1∈caps
 cps:∀ x∈caps,sc.names.lookup x=some .cell∧isc.names.lookup x=some .free
 tgs:∀ x∈targets,isc.names.lookup x=some .local
 nd:(caps++targets).Nodup
theorem CompOk.of {sc isc:Scope} {caps targets:List Str} (h:compScope sc isc caps targets=true):CompOk sc isc caps targets:=by
 simp only [compScope,Bool.and_eq_true,List.all_eq_true,Bool.or_eq_true,bne_iff_ne,ne_eq,beq_iff_eq,kindIn,List.contains_iff_mem,decide_eq_true_eq] at h
 obtain⟨⟨⟨⟨h1,h2⟩,h3⟩,h4⟩,h5⟩:=h
 exact⟨h1,fun x hx=>(h2 x hx).1.2,fun x hx hl=>(h2 x hx).1.1.resolve_left fun h=>h hl,fun x hx hf=>(h2 x hx).2.resolve_left fun h=>h hf,h3,h4,h5⟩
theorem mapM_get {α β:Type} {f:α→Option β} {l:List α}:∀ {r:List β},l.mapM f=some r→l.length=r.length∧∀ {i:Nat} {a},l[i]?=some a→∃ b,r[i]?=some b∧f a=some b:=by
 induction l with
 | nil=>intro r h;cases h;exact⟨rfl,fun h=>nomatch h⟩
 | cons x l ih =>
  intro r h
  rw [List.mapM_cons] at h
  obtain⟨y,e1,h⟩:=Option.bind_eq_some_iff.mp h
  obtain⟨r',e2,h⟩:=Option.bind_eq_some_iff.mp h
  cases h
  obtain⟨h1,h2⟩:=ih e2
  exact⟨congrArg (·+1) h1,fun {i a} h=>by
   cases i with
   | zero=>cases h;exact⟨y,rfl,e1⟩
   | succ i=>exact h2 h⟩
section
variable {W:Setup} {n:Nat} {F F':Frame W n} {ρ ρ':Rho} {T T':TH} {w w' w₀ w₁:Wd} {p q d elt c:E} {l r e e₂ te iter:Expr} {pos apos np cp px:Pos} {v x y:V} {z zv xv yv:Value} {nm tn:Str} {X:Addr→Prop} {s:Shared} {I L D:Addr} {caps ts:List Str} {isc:Scope} {cap:List Nat} {cl:List (Str×Addr)}
noncomputable abbrev capM (ρ:Rho) (cap:List Nat):Rho:=cap.map fun i=>(ρ[i]?).join
structure CellsOk (W:Setup) (caps:List Str) (cap:List Nat) (isc:Scope) (env:Env) (cl:List (Str×Addr)) (ρ:Rho) (w:Wd):Prop where
 c:closureFor isc env=pure cl
 at_:∀ {i:Nat} {v:V},(capM ρ cap)[i]?=some (some v)→∃ x z c,caps[i]?=some x∧VR w v z∧(∀ L,(compEnvC isc cl L env).kindOf x=some .cell)∧cl.lookup x=some c∧w.s.heap.IsCell c (some z)∧¬ foot w c
theorem comp_env (hr:Here F ρ T w) (hcap:cap.mapM (F.names[·]?)=some caps) (hall:(cap.all fun i=>(ρ[i]?).join.isSome)=true) (K:CompOk F.sc isc caps ts):∃ cl,CellsOk W caps cap isc F.env cl ρ w:=by
 obtain⟨hl,hg⟩:=mapM_get hcap
 obtain⟨m,ns,ha⟩:=hr.f
 have one:∀ {i:Nat} {v:V},(capM ρ cap)[i]?=some (some v)→∃ x z c,caps[i]?=some x∧VR w v z∧F.env.cells.lookup x=some c∧w.s.heap.IsCell c (some z)∧¬ foot w c:=fun {i v} hi=>by
  rw [List.getElem?_map] at hi
  obtain⟨k,hk,hv⟩:=Option.map_eq_some_iff.mp hi
  obtain⟨x,hx,hnx⟩:=hg hk
  obtain⟨y,z,hy,hz,hL⟩:=ha hv
  rw [hnx] at hy;cases hy
  have hkc:=F.cell _ (K.cps _ (List.mem_of_getElem? hx)).1
  cases hL with
  | loc h1 _=>rw [hkc] at h1;cases h1
  | cell h1 h2 h3 h4=>exact⟨x,z,_,hx,hz,h2,h3,h4⟩
 have hfree:∀ x∈isc.names,x.2=.free→∃ c,F.env.cells.lookup x.1=some c:=fun x hx hf=>by
  obtain⟨i,hi⟩:=List.getElem?_of_mem (K.free x hx hf).2
  have hlt:i<cap.length:=by rw [hl];exact (List.getElem?_eq_some_iff.mp hi).1
  obtain⟨v,hv⟩:=Option.isSome_iff_exists.mp ((List.all_eq_true.mp hall) cap[i] (List.getElem_mem hlt))
  obtain⟨y,z,c,hy,_,hc,_⟩:=one (i:=i) (v:=v) (by rw [List.getElem?_map,List.getElem?_eq_getElem hlt];exact congrArg some hv)
  rw [hi] at hy;cases hy
  exact⟨c,hc⟩
 obtain⟨cl,h1,h2⟩:=closureFor_ok hfree
 refine⟨cl,h1,fun {i v} hi=>?_⟩
 obtain⟨x,z,c,hx,hz,hc,hce,hcf⟩:=one hi
 have hk:=K.cps _ (List.mem_of_getElem? hx)
 refine⟨x,z,c,hx,hz,fun L=>(relabel_get (env:=F.env) hk.2).trans ?_,(h2 (x,.free) (mem_of_lookup hk.2) rfl).trans hc,hce,hcf⟩
 rw [F.fn,F.cell _ hk.1];rfl
noncomputable def Frame.inner (F:Frame W n) (K:CompOk F.sc isc caps ts) (cl:List (Str×Addr)) (L:Addr) (hL:W.g.get? L=none):Frame W n where
 names:=caps++ts
 sc:=isc
 A:=F.A
 env:=compEnvC isc cl L F.env
 hh:=F.hh
 depth:=F.depth
 units:=F.units
 fn:=K.kind
 gl:=F.gl
 bl:=F.bl
 loc:=fun _ h=>lookup_relabel_local h
 glob:=fun _ h=>relabel_get h
 cell:=fun _ h=>absurd rfl (K.nocell _ (mem_of_lookup h))
 low:=hL
 nd:=K.nd
theorem inner_here (hr:Here F ρ T w) (K:CompOk F.sc isc caps ts) (hcap:cap.mapM (F.names[·]?)=some caps) (C:CellsOk W caps cap isc F.env cl ρ w) (S:St W T' w') (x:Le noA w w') (hL:W.g.get? L=none) (hN:w'.s.heap.Ns L fun _=>none) (hf:¬ foot w' L) {k:Nat} :
  Here (F.inner K cl L hL) (capM ρ cap++List.replicate k none) T' w':=by
 refine⟨⟨_,hN,fun {i v} hv=>?_⟩,hf,S⟩
 rcases Nat.lt_or_ge i (capM ρ cap).length with h|h
 ·rw [List.getElem?_append_left h] at hv
  cases q:(capM ρ cap)[i]? with
  | none=>rw [q] at hv;cases hv
  | some o =>
   rw [q] at hv
   obtain⟨y,z,c,h1,h2,h3,h4,h5,h6⟩:=C.at_ (q.trans (congrArg some hv))
   exact⟨y,z,((List.getElem?_append_left (List.getElem?_eq_some_iff.mp h1).1).trans h1:(caps++ts)[i]?=some y),hr.st.mono x h2,(NameR.cell (.inl (h3 L)) h4 h5 h6:NameR _ w _ y z).ext x fun _ _ f=>f.elim⟩
 ·rw [List.getElem?_append_right h,List.getElem?_replicate] at hv
  split at hv<;>cases hv
structure CompEnd (F:Frame W n) (ρ:Rho) (T':TH) (w:Wd) (i:Nat) (D L:Addr) (w':Wd):Prop where
 h:Here F ρ T' w'
 e:Le noA w w'
 ad:w'.ads[i]?=some (D,D)
 ns:∃ m,w'.s.heap.Ns L m
 nf:¬ foot w' L
 new:w.s.heap.get? L=none
 ne:L≠F.env.locals
 g:W.g.get? L=none
structure CompS (F F':Frame W n) (ρ ρ':Rho) (T T':TH) (w:Wd) (I D:Addr) (w':Wd):Prop where
 h:Here F ρ T w
 h':Here F' ρ' T' w'
 e:Le noA w w'
 ad:w'.ads[T.length]?=some (D,D)
 nf:¬ foot w' I
 newL:w.s.heap.get? F'.env.locals=none
 newI:w.s.heap.get? I=none
 ne:I≠F'.env.locals
theorem CompS.fin {i:Nat} {kk:K} (C:CompS F F' ρ ρ' T T' w I D w') {h':Heap} (hk:∀ {b o},b≠I→w'.s.heap.get? b=some o→h'.get? b=some o) (hd:∀ o,w'.s.heap.get? I=some o→(∀ vs n,o.data≠.seq vs n)∧∀ v,o.data≠.cell v):CompEnd F ρ T' w T.length D F'.env.locals ⟨w'.ads,{w'.s with heap:=h'}⟩:=by
 have z:=C.h'.but (s:={w'.s with heap:=h'}) hd C.ne hk C.nf (C.h.st.gnone C.newI)
 have e:=C.e.behind (s:={w'.s with heap:=h'}) hk rfl rfl C.newI
 exact⟨C.h.ext z.1.st e,e,C.ad,⟨_,z.1.f.choose_spec.ns⟩,z.1.nf,C.newL,fun q=>C.h.not_own C.newL q,C.h.st.gnone C.newL⟩
theorem set_end {kk:K} {o o':O}:(T++[(kk,o)]).set T.length (kk,o')=T++[(kk,o')]:=by rw [List.set_append_right _ _ (Nat.le_refl _),Nat.sub_self];rfl
theorem chg_end {kk:K} {o:O}:Chg noX T (T++[(kk,o)]):=⟨fun h _=>get_old h,fun h=>⟨_,get_old h⟩⟩
theorem setR_end {v:V}:∀ {A:Rho} {z:Option V},setR (A++[z]) A.length v=some (A++[some v])
 | [],_=>rfl
 | a::A,z=>by show (setR (A++[z]) A.length v).map (a::·)=_;rw [setR_end];rfl
theorem next_item {A:Around} {R:Option Value→Shared→Prop} {E:Value→Shared→Prop} {o j:Nat} {kk:K} {ll:List V} {pp:Addr×Addr} (hh:A.handled=none) (S:St W T w) (hl:T[o]?=some (kk,.list ll)) (hi:w.ads[o]?=some pp) (hit:w.s.heap.IsListIter I pp.1 j)
  (h0:ll.length≤j→∀ h',(∀ {b o},b≠I→w.s.heap.get? b=some o→h'.get? b=some o)→R none {w.s with heap:=h'})
  (h1:∀ v xv h',ll[j]?=some v→VR w v xv→h'.IsListIter I pp.1 (j+1)→(∀ {b o},b≠I→w.s.heap.get? b=some o→h'.get? b=some o)→R (some xv) {w.s with heap:=h'}):wpAny W.M A (pyNext (.ref I)) R E w.s:=by
 cases S.obj hl hi with
 | @list aL vs m _ ha hv =>
  cases q:ll[j]? with
  | none =>
   have hle:=List.getElem?_eq_none_iff.mp q
   exact wpAny_pyNext_list_end hh hit ⟨_,ha,rfl,m,rfl⟩ (by rw [Array.getElem?_eq_none];rw [←len_of hv];exact hle) fun h' hk=>h0 hle h' fun hb e=>hk _ _ hb e
  | some v =>
   obtain⟨xv,hxv,hxr⟩:=hv.get q
   exact wpAny_pyNext_list_item hit ⟨_,ha,rfl,m,rfl⟩ (x:=xv) (by rw [←Array.getElem?_toList];exact hxv) fun h' hit' hs'=>h1 v xv h' q hxr hit' fun hb e=>(hs'.2 _ hb).trans e
theorem IsListIter.fields {j:Nat} {a:Addr} (h:w.s.heap.IsListIter I a j):∀ o,w.s.heap.get? I=some o→(∀ vs n,o.data≠.seq vs n)∧∀ v,o.data≠.cell v:=by
 obtain⟨o,ho,_,hd⟩:=h
 exact fields_not ho hd
theorem iter_keep {j:Nat} {a:Addr} (e:Le X w w') (h:w.s.heap.IsListIter I a j) (hf:¬ foot w I) (hX:¬ X I):w'.s.heap.IsListIter I a j∧¬ foot w' I:=by
 obtain⟨o,ho,r⟩:=h
 exact⟨⟨o,e.keep ho hf hX,r⟩,e.off ho hf⟩
noncomputable abbrev CondSnd (F:Frame W n) (c:E) (ifs:List Expr):Prop:=(c=.lit (.bool true)∧ifs=[])∨∃ g,ifs=[g]∧TrSnd F c g
theorem comp_turn {F':Frame W n} {e:Expr} {ifs:List Expr} {kk:K} {acc:List V} {r:Option V} {A₁:Rho} {D:Addr} {w₃:Wd} {N:Shared→Prop} {E:Value→Shared→Prop} (hE:ESnd F' elt e) (hC:CondSnd F' c ifs)
  (item:ItemX (fun T Q=>EV (CN n) A₁ elt T Q) (fun T Q=>EV (CN n) A₁ c T Q) (T++[(kk,.list acc)]) r) (hb:acc.length<limit) (h₃:Here F' A₁ (T++[(kk,.list acc)]) w₃) (ad:w₃.ads[T.length]?=some (D,D))
  (next:∀ w₆ l,l=acc++r.toList→Here F' A₁ (T++[(kk,.list l)]) w₆→Le noA w₃ w₆→N w₆.s) :
  wpAny W.M F'.A (forIn ifs true fun c r=>if r=true then do {let ok ←PySem.isTrue c F'.env (eval c F'.env);pure (ForInStep.yield ok)} else pure (ForInStep.yield r))
   (fun ok s₃=>if ok=true then wpAny W.M F'.A (eval e F'.env) (fun x s₄=>wpAny W.M F'.A (call (.builtin "list.append") [.ref D,x]) (fun _ s₅=>N s₅) E s₄) E s₃ else N s₃) E w₃.s:=by
 cases r with
 | some y =>
  have emit:∀ w₄,Here F' A₁ (T++[(kk,.list acc)]) w₄→Le noA w₃ w₄→wpAny W.M F'.A (eval e F'.env) (fun x s₄=>wpAny W.M F'.A (call (.builtin "list.append") [.ref D,x]) (fun _ s₅=>N s₅) noE s₄) noE w₄.s:=fun w₄ h₄ e₄ =>
   hE item.1 h₄ fun x T₅ xv w₅ ⟨hx,hT⟩ r₅ h₅ e₅=>by
    subst hx;subst hT
    refine push_st (pp:=(D,D)) h₅.st get_end (e₅.at_ (e₄.at_ ad)) hb r₅ fun w₆ S₆ e₆ _=>?_
    rw [set_end] at S₆
    exact next w₆ _ rfl (h₅.ext S₆ e₆) ((e₄.trans e₅).trans e₆)
  rcases hC with ⟨rfl,rfl⟩|⟨g,rfl,hT⟩
  ·refine noE.up (wpAny_tests_nil ?_)
   rw [if_pos rfl]
   exact noE.up2 (emit w₃ h₃ .refl)
  ·refine noE.up (wpAny_tests_one (hT item.2 h₃ fun b T₄ w₄ ⟨hb,ht⟩ h₄ e₄=>?_))
   subst hb;subst ht
   rw [if_pos rfl]
   exact noE.up2 (emit w₄ h₄ e₄)
 | none =>
  rcases hC with ⟨rfl,rfl⟩|⟨g,rfl,hT⟩
  ·exact nomatch item.1
  ·refine noE.up (wpAny_tests_one (hT item h₃ fun b T₄ w₄ ⟨hb,ht⟩ h₄ e₄=>?_))
   subst hb;subst ht
   rw [if_neg Bool.false_ne_true]
   exact next w₄ _ (List.append_nil _).symm h₄ e₄
theorem comp_loop {ifs:List Expr} {o:Nat} {kk k₀:K} {ll:List V} {pp:Addr×Addr} {f:V→Option V} {R:Result→Shared→Prop} {A₀:Rho} (hE:ESnd F' elt e) (hC:CondSnd F' c ifs) (hb:bindsAs F'.names F'.sc A₀.length tn=true)
  (hl:T[o]?=some (k₀,.list ll)) (hlim:ll.length≤limit) (hi:w.ads[o]?=some pp) (hs:∀ x T',x∈ll→Chg noX T T'→ItemX (fun T Q=>EV (CN n) (A₀++[some x]) elt T Q) (fun T Q=>EV (CN n) (A₀++[some x]) c T Q) T' (f x))
  (C:CompS F F' ρ (A₀++[none]) T (T++[(kk,.list [])]) w I D w₁) (hit:w₁.s.heap.IsListIter I pp.1 0) (hR:∀ w',CompEnd F ρ (T++[(kk,.list (ll.filterMap f))]) w T.length D F'.env.locals w'→R (.ok .next) w'.s) :
  codeAny W.M F'.A (.compLoop (.ListComp e [⟨.Name tn px,iter,ifs,0⟩] isc pos) 0 (.ref I) (.ref D) F'.env) R w₁.s:=by
 refine codeAny_compLoop_tests (fun k' s'=>∃ j z w',k'=ll.length-j∧w'.s=s'∧CompS F F' ρ (A₀++[z]) T (T++[(kk,.list ((ll.take j).filterMap f))]) w I D w'∧w'.s.heap.IsListIter I pp.1 j) ?_ _ ⟨0,none,w₁,rfl,rfl,C,hit⟩
 clear C hit
 rintro _ _ ⟨j,z,w₂,rfl,rfl,C,hit⟩
 refine next_item F'.hh C.h'.st (get_old hl) (C.e.at_ hi) hit (fun hle h' hk=>?_) fun v xv h' hv hx hit' hk=>?_
 ·have z:=C.fin (i:=0) (kk:=kk) hk (IsListIter.fields hit)
  rw [List.take_of_length_le hle] at z
  exact hR _ z
 ·have hv':=List.mem_of_getElem? hv
  have htk:ll.take (j+1)=ll.take j++[v]:=by rw [List.take_add_one,hv];rfl
  have hlt:=(List.getElem?_eq_some_iff.mp hv).1
  have nI:=C.ne
  have z:=C.h'.but (s:={w₂.s with heap:=h'}) (IsListIter.fields hit) nI hk C.nf (C.h.st.gnone C.newI)
  have e₂:=C.e.behind (s:={w₂.s with heap:=h'}) hk rfl rfl C.newI
  have item:=hs v _ hv' (chg_end (kk:=kk) (o:=.list ((ll.take j).filterMap f)))
  refine wpAny_mono (wpAny_assign_Name (store_core (R:=fun _ s=>∃ w₃,w₃.s=s∧Here F' (A₀++[some v]) _ w₃∧Le (own F') ⟨w₂.ads,{w₂.s with heap:=h'}⟩ w₃) (w:=⟨w₂.ads,{w₂.s with heap:=h'}⟩) z.1 hb setR_end (z.2 hx) fun w₃ h₃ e₃ _=>⟨w₃,rfl,h₃,e₃⟩)) (fun _ s₃ ⟨w₃,hs,h₃,e₃⟩=>?_) fun _ _ f=>f.elim
  subst hs
  have it₃:=iter_keep e₃ hit' C.nf nI
  have ad:=e₃.at_ C.ad
  have e₃:=(e₂.any.trans e₃).gone C.newL
  exact comp_turn hE hC item (Nat.lt_of_le_of_lt (List.length_filterMap_le _ _) (Nat.lt_of_le_of_lt (List.length_take_le _ _) (Nat.lt_of_lt_of_le hlt hlim))) h₃ ad fun w₆ l hl h₆ e₆=>by
   have it₆:=iter_keep e₆ it₃.1 it₃.2 id
   have hl:l=(ll.take (j+1)).filterMap f:=by
    rw [hl,htk,List.filterMap_append]
    cases hf:f v<;>simp [hf]
   subst hl
   exact⟨ll.length-(j+1),Nat.sub_lt_sub_left hlt (Nat.lt_succ_self j),j+1,some v,w₆,rfl,rfl,⟨C.h,h₆,e₃.trans e₆,e₆.at_ ad,it₆.2,C.newL,C.newI,nI⟩,it₆.1⟩
theorem comp_start {gens:List Comprehension} {g:Comprehension} {o k:Nat} {k₀:K} {pp:Addr×Addr} {ll:List V} {R:Value→Addr→Result→Shared→Prop} (hg:g.is_async=0) (hr:Here F ρ T w) (K:CompOk F.sc isc caps ts) (hcap:cap.mapM (F.names[·]?)=some caps)
  (C:CellsOk W caps cap isc F.env cl ρ w) (hl:T[o]?=some (k₀,.list ll)) (hi:w.ads[o]?=some pp)
  (hloop:∀ I D L hL w',(∀ kk,CompS F (F.inner K cl L hL) ρ (capM ρ cap++List.replicate k none) T (T++[(kk,.list [])]) w I D w')→w'.s.heap.IsListIter I pp.1 0 →
   codeAny W.M F.A (.compLoop (.ListComp e (g::gens) isc pos) 0 (.ref I) (.ref D) (compEnvC isc cl L F.env)) (R (.ref D) L) w'.s) :
  wpAny W.M F.A (pyIter (.ref pp.1)) (fun it s₂=>wpAny W.M F.A (newList []) (fun acc s₃=>wpAny W.M F.A (newFunctionEnv isc F.env.globals cl [] F.env.qual none .none (some F.env)) (fun cenv s₄ =>
   codeAny W.M F.A (.compStart (.ListComp e (g::gens) isc pos) 0 it acc {cenv with scope:=relabel isc F.env}) (R acc cenv.locals) s₄) noE s₃) noE s₂) noE w.s:=by
 cases hr.st.obj hl hi with
 | @list aL vs m _ ha hv =>
  refine wpAny_pyIter_list ⟨_,ha,rfl,m,rfl⟩ (wpAny_newObj_type (wpAny_newFunctionEnv K.nocell (fun _ hy=>nomatch hy) (fun h₁ hns₁ hsb₁=>?_) K.kind))
  dsimp only at hns₁ hsb₁ ⊢
  generalize hH1:w.s.heap.push {cls:=.type "list_iterator",dict:=none,data:=.fields #[.ref aL,.int 0 0],slots:=#[]}=G1 at hns₁ hsb₁ ⊢
  generalize hH2:G1.push {cls:=.type "list",dict:=none,data:=.seq ([]:List Value).toArray,slots:=#[]}=G2 at hns₁ hsb₁ ⊢
  have z1:G1.objs.size=w.s.heap.objs.size+1:=by rw [←hH1,Heap.size_push]
  have z2:G2.objs.size=w.s.heap.objs.size+1+1:=by rw [←hH2,Heap.size_push,z1]
  have up:∀ {b o},b≠G2.objs.size→G2.get? b=some o→h₁.get? b=some o:=fun hb e=>(hsb₁.2 _ hb).trans (Heap.get?_push_of_some _ e)
  have up1:∀ {b o},G1.get? b=some o→h₁.get? b=some o:=fun e=>up (Nat.ne_of_lt (by rw [z2,←z1];exact Nat.lt_succ_of_lt (Heap.lt_size e))) (hH2▸Heap.get?_push_of_some _ e)
  have up0:∀ {b o},w.s.heap.get? b=some o→h₁.get? b=some o:=fun e=>up1 (hH1▸Heap.get?_push_of_some _ e)
  have hI1:h₁.IsListIter w.s.heap.objs.size aL 0:=⟨_,up1 (hH1▸Heap.get?_push_size _ rfl),rfl,rfl⟩
  have hD1:h₁.get? G1.objs.size=some (listOf #[] 0):=up (by rw [z2,z1];exact Nat.ne_of_lt (Nat.lt_succ_self _)) (hH2▸Heap.get?_push_size _ rfl)
  have hDn:w.s.heap.get? G1.objs.size=none:=none_ge (by rw [z1];exact Nat.le_succ _)
  have hLn:w.s.heap.get? G2.objs.size=none:=none_ge (by rw [z2];exact Nat.le_trans (Nat.le_succ _) (Nat.le_succ _))
  have hIn:w.s.heap.get? w.s.heap.objs.size=none:=get_size _
  have z:=fun kk:Mine.K=>hr.st.alloc (k:=kk) (o:=.list []) (p:=(G1.objs.size,G1.objs.size)) (s:={w.s with heap:=h₁,toks:=w.s.toks+([]:List (Str×Value)).length}) up0 hDn hDn rfl rfl fun _=>.list hD1 .nil
  have nf:∀ {c},c≠G1.objs.size→w.s.heap.get? c=none→¬ foot ⟨w.ads++[(G1.objs.size,G1.objs.size)],{w.s with heap:=h₁,toks:=w.s.toks+([]:List (Str×Value)).length}⟩ c:=fun h1 h2 ⟨q,hq,hb⟩=>by
   rcases List.mem_append.mp hq with hm|hm
   ·exact hr.st.not_foot h2 ⟨q,hm,hb⟩
   ·rw [List.mem_singleton] at hm;subst hm
    exact hb.elim (fun e=>h1 e.symm) fun e=>h1 e.symm
  have hgL:=hr.st.gnone hLn
  have H4:=fun kk:Mine.K=>inner_here (L:=G2.objs.size) hr K hcap C (z kk).1 (z kk).2 hgL hns₁ (nf (by rw [z2,z1];exact Nat.ne_of_gt (Nat.lt_succ_self _)) hLn) (k:=k)
  have go:=hloop w.s.heap.objs.size G1.objs.size G2.objs.size hgL ⟨_,_⟩ (fun kk=>⟨hr,H4 kk,(z kk).2,hr.st.len▸get_end,nf (by rw [z1];exact Nat.ne_of_lt (Nat.lt_succ_self _)) hIn,hLn,hIn,by rw [show (F.inner K cl G2.objs.size hgL).env.locals=G2.objs.size from rfl,z2];exact Nat.ne_of_lt (Nat.lt_succ_of_lt (Nat.lt_succ_self _))⟩) hI1
  obtain⟨tg,it,fs,as⟩:=g
  cases hg
  exact codeAny_compStart_list go (wpAny_pyIter_listiter (s:={w.s with heap:=h₁,toks:=w.s.toks+([]:List (Str×Value)).length}) hI1 go)
theorem comp_any {gens:List Comprehension} {g:Comprehension} {it:E} {k:Nat} {G:PE'} {use:Option (Value→Sem Unit)} {Q:Value→Shared→Prop} (hg:g.is_async=0) (hns:notSet g.iter=true) (K:CompOk F.sc isc caps ts) (hcap:cap.mapM (F.names[·]?)=some caps) (hall:(cap.all fun i=>(ρ[i]?).join.isSome)=true) (hp:ESnd F it g.iter) (q:EV (CN n) ρ it T G) (hr:Here F ρ T w)
  (hlist:∀ x T',G x T'→∃ o k₀ ll,x=.obj o∧T'[o]?=some (k₀,.list ll))
  (hloop:∀ {x T₁ w₁ o pp cl I D L hL w'},G x T₁→x=.obj o→w₁.ads[o]?=some pp→Here F ρ T₁ w₁→Le noA w w₁→(∀ kk,CompS F (F.inner K cl L hL) ρ (capM ρ cap++List.replicate k none) T₁ (T₁++[(kk,.list [])]) w₁ I D w')→w'.s.heap.IsListIter I pp.1 0 →
   codeAny W.M F.A (.compLoop (.ListComp e (g::gens) isc pos) 0 (.ref I) (.ref D) (compEnvC isc cl L F.env)) (compPost W.M F.A noE use Q (.ref D) L) w'.s) :
  wpAny W.M F.A (comprehension (.ListComp e (g::gens) isc pos) isc F.env cp (newList []) false (eval g.iter F.env) use) Q noE w.s:=by
 obtain⟨cl,hcl⟩:=comp_env hr hcap hall K
 refine wpAny_comprehension_free rfl (folded_of hns) hcl.c K.kind K.loc (hp q hr fun x T₁ xv w₁ q₁ r₁ h₁ e₁=>?_)
 obtain⟨cl',hcl'⟩:=comp_env h₁ hcap hall K
 have hcc:cl'=cl:=by
  have:=hcl'.c.symm.trans hcl.c
  injection this
 subst hcc
 obtain⟨o,k₀,ll,rfl,hl⟩:=hlist x T₁ q₁
 cases r₁ with
 | @obj _ pp hi=>exact comp_start (k:=k) (R:=fun acc L=>compPost W.M F.A noE use Q acc L) hg h₁ K hcap hcl' hl hi fun I D L hL w' C hit=>hloop (hL:=hL) q₁ rfl hi h₁ e₁ C hit
theorem comp_take {Q:PE'} {R:Value→Shared→Prop} {i:Nat} (k:∀ v T' x w',Q v T'→VR w' v x→Here F ρ T' w'→Le noA w₀ w'→R x w'.s) (e:Le noA w₀ w) (q:Q (.obj i) T') (C:CompEnd F ρ T' w i D L w'):compPost W.M F.A noE none R (.ref D) L (.ok .next) w'.s:=by
 obtain⟨m,ns⟩:=C.ns
 refine⟨m,ns,fun h' hs=>?_⟩
 have hk:∀ {b o},b≠L→w'.s.heap.get? b=some o→h'.get? b=some o:=fun hb e=>(hs.2 _ hb).trans e
 have z:=C.h.but (s:={w'.s with heap:=h'}) (fun o ho=>⟨Ns.dict ns o ho,Ns.nocell ns o ho⟩) C.ne hk C.nf C.g
 exact k _ T' _ ⟨w'.ads,{w'.s with heap:=h'}⟩ q (VR.obj (w:=⟨w'.ads,{w'.s with heap:=h'}⟩) C.ad) z.1 (e.trans (C.e.behind hk rfl rfl C.new))
theorem comp_bind {R:Flow→Shared→Prop} {i j:Nat} (hb:bindsAs F.names F.sc j nm=true) (he:setR ρ j (.obj i)=some ρ') (k:∀ w',Here F ρ' T' w'→Le (own F) w₀ w'→R .next w'.s) (e:Le noA w₀ w) (C:CompEnd F ρ T' w i D L w') :
  compPost W.M F.A noE (some (assign (.Name nm px) F.env)) (fun _ s'=>R .next s') (.ref D) L (.ok .next) w'.s:=by
 obtain⟨m,oN,es,ep,hoN,rN⟩:=C.ns
 refine wpAny_assign_Name (store_core C.h hb he (VR.obj C.ad) fun w₆ h₆ x₆ ha=>?_)
 have ns:w₆.s.heap.Ns L m:=⟨oN,es,ep,x₆.keep hoN C.nf C.ne,rN⟩
 refine⟨m,ns,fun h' hs=>?_⟩
 have hk:∀ {b o},b≠L→w₆.s.heap.get? b=some o→h'.get? b=some o:=fun hb e=>(hs.2 _ hb).trans e
 have z:=h₆.but (s:={w₆.s with heap:=h'}) (fun o ho=>⟨Ns.dict ns o ho,Ns.nocell ns o ho⟩) C.ne hk (x₆.off hoN C.nf) C.g
 exact k ⟨w₆.ads,{w₆.s with heap:=h'}⟩ z.1 (e.any.trans ((C.e.any.trans x₆).behind hk rfl rfl C.new))
theorem binds_end (K:CompOk F.sc isc caps (tn::ts)) (hl:cap.length=caps.length):bindsAs (caps++tn::ts) isc cap.length tn=true:=by
 have h1:(caps++tn::ts)[cap.length]?=some tn:=by rw [hl,List.getElem?_append_right (Nat.le_refl _),Nat.sub_self];rfl
 simp only [bindsAs,kindIn,h1,K.tgs tn (.head _),beq_self_eq_true,Bool.and_self]
structure CompP (F:Frame W n) (elt:E) (cap:List Nat) (it c:E) (e:Expr) (tn:Str) (iter:Expr) (ifs:List Expr) (isc:Scope) (caps:List Str):Prop where
 cap:cap.mapM (F.names[·]?)=some caps
 K:CompOk F.sc isc caps [tn]
 ns:notSet iter=true
 it:ESnd F it iter
 e:∀ F':Frame W n,F'.names=caps++[tn]→F'.sc=isc→ESnd F' elt e
 c:∀ F':Frame W n,F'.names=caps++[tn]→F'.sc=isc→CondSnd F' c ifs
theorem comp_run {it:E} {ifs:List Expr} {Q:PE'} {use:Option (Value→Sem Unit)} {R:Value→Shared→Prop} (P:CompP F elt cap it c e tn iter ifs isc caps) (hw:EV (CN n) ρ (.comp elt cap it c) T Q) (hr:Here F ρ T w)
  (k:∀ {T' i D L w₁ w'},Q (.obj i) T'→Le noA w w₁→CompEnd F ρ T' w₁ i D L w'→compPost W.M F.A noE use R (.ref D) L (.ok .next) w'.s) :
  wpAny W.M F.A (comprehension (.ListComp e [⟨.Name tn px,iter,ifs,0⟩] isc pos) isc F.env cp (newList []) false (eval iter F.env) use) R noE w.s:=by
 have hl:=(mapM_get P.cap).1
 refine comp_any (g:=⟨.Name tn px,iter,ifs,0⟩) (k:=1) (use:=use) (Q:=R) rfl P.ns P.K P.cap hw.b P.it hw.p hr (fun x T' q=>?_) fun {x T₁ w₁ o pp cl I D L hL w'} q hx hi h₁ e₁ C hit=>?_
 ·cases q with|mk kk f h=>exact⟨_,_,_,rfl,h⟩
 ·cases q with
  | mk kk f hT hlim hs q =>
   cases hx
   have hA:(capM ρ cap).length=cap.length:=List.length_map _
   exact comp_loop (F':=F.inner P.K cl L hL) (P.e _ rfl rfl) (P.c _ rfl rfl) (by rw [hA];exact binds_end P.K hl) hT hlim hi hs (C kk) hit fun w' E=>k (q.ex _ _ (List.getElem?_eq_none (Nat.le_refl _)) get_end chg_end) e₁ E
theorem snd_comp {it:E} {ifs:List Expr} (P:CompP F elt cap it c e tn iter ifs isc caps):ESnd F (.comp elt cap it c) (.ListComp e [⟨.Name tn px,iter,ifs,0⟩] isc pos):=fun {ρ T w Q R} hw hr k=>by
 rw [eval_ListComp]
 exact comp_run (use:=none) P hw hr fun q e C=>comp_take k e q C
theorem ssnd_comp {it:E} {ifs:List Expr} {j:Nat} {spos ppos:Pos} (hb:bindsAs F.names F.sc j nm=true) (hsw:∀ env,env.scope.kind=.function→env.kindOf nm=some .local→swapsWith (.ListComp e [⟨.Name tn px,iter,ifs,0⟩] isc pos) (some (.Name nm ppos)) spos.line env=pure true) (P:CompP F elt cap it c e tn iter ifs isc caps) :
  SSnd F (.assign (.loc j) (.comp elt cap it c)) (.Assign [.Name nm ppos] (.ListComp e [⟨.Name tn px,iter,ifs,0⟩] isc pos) spos):=fun {ρ T w Q R} hw hr k=>by
 have hb':=hb
 simp only [bindsAs,kindIn,Bool.and_eq_true,beq_iff_eq] at hb'
 rw [exec_Assign_Name_used _ _ _ _ (hsw F.env F.fn (F.loc _ hb'.2))]
 refine wpAny_bind (wpAny_standAt (wpAny_bind ?_))
 show wpAny _ F.A (do let _ ←comprehension (.ListComp e [⟨.Name tn px,iter,ifs,0⟩] isc pos) isc F.env _ (newList []) false (eval iter F.env) (some (assign (.Name nm ppos) F.env))) _ _ w.s
 refine wpAny_bind (wpAny_mono (comp_run (R:=fun _ s=>R .next s) (use:=some (assign (.Name nm ppos) F.env)) P hw hr fun {T' i D L w₁ w'} q e C=>GetM.on q fun ρ' he q=>comp_bind hb he (fun w' h x=>k none ρ' T' .next w' q trivial h x) e C) (fun _ s' hq=>wpAny_pure (wpAny_pure hq)) fun _ _ e=>e)
end
end Mine
set_option genInjectivity false
namespace Mine
open PySem PySem.W PySem.Calls PyProof.Rows PySem.Spec
section
variable {prog:Program} {w:World} {A:Around} {E:Value→Shared→Prop} {R:Result→Shared→Prop} {s:Shared} {elt t₁ i₁ t₂ i₂:Expr} {scope:Scope} {pos:Pos} {it acc:Value} {env:Env}
theorem compTurn_two0 :
  compTurn (.ListComp elt [⟨t₁,i₁,[],0⟩,⟨t₂,i₂,[],0⟩] scope pos) 0 it acc env=(standAt i₁.pos >>= fun _=>pyNext it >>= fun r=>match r with
   | none=>pure (.done .next)
   | some v=>letOwnedTupleGo t₁ it v >>= fun _=>assign t₁ env v >>= fun _=>eval i₂ env >>= fun x=>standAt i₂.pos >>= fun _=>foldedSetIterable i₂ env x >>= fun x=>holding [x] (pyIter x) >>= fun it' =>
    runOwn (.compStart (.ListComp elt [⟨t₁,i₁,[],0⟩,⟨t₂,i₂,[],0⟩] scope pos) 1 it' acc env) env >>= fun _=>again (.compLoop (.ListComp elt [⟨t₁,i₁,[],0⟩,⟨t₂,i₂,[],0⟩] scope pos) 0 it acc env)):=by rfl
theorem compTurn_two1 :
  compTurn (.ListComp elt [⟨t₁,i₁,[],0⟩,⟨t₂,i₂,[],0⟩] scope pos) 1 it acc env=(standAt i₂.pos >>= fun _=>pyNext it >>= fun r=>match r with
   | none=>pure (.done .next)
   | some v=>letOwnedTupleGo t₂ it v >>= fun _=>assign t₂ env v >>= fun _=>(eval elt env >>= fun x=>call (.builtin "list.append") [acc,x] >>= fun _=>pure ()) >>= fun _=>again (.compLoop (.ListComp elt [⟨t₁,i₁,[],0⟩,⟨t₂,i₂,[],0⟩] scope pos) 1 it acc env)):=by rfl
theorem loop_outer (I:Nat→Shared→Prop)
  (turn:∀ n s,I n s→wpAny (model prog w) A (pyNext it) (fun r s₁=>match r with
   | none=>R (.ok .next) s₁
   | some v=>wpAny (model prog w) A (assign t₁ env v) (fun _ s₂=>wpAny (model prog w) A (eval i₂ env) (fun x s₃=>wpAny (model prog w) A (pyIter x) (fun it' s₄ =>
     codeAny (model prog w) A (.compStart (.ListComp elt [⟨t₁,i₁,[],0⟩,⟨t₂,i₂,[],0⟩] scope pos) 1 it' acc env) (fun r s₅=>match r with|.ok _=>∃ m,m<n∧I m s₅|.error _=>False) s₄) noE s₃) noE s₂) noE s₁) noE s)
  (n:Nat) (h:I n s) (ht:∀ v,letOwnedTupleGo t₁ it v=pure ()) (hs:∀ x,foldedSetIterable i₂ env x=pure x) :
  codeAny (model prog w) A (.compLoop (.ListComp elt [⟨t₁,i₁,[],0⟩,⟨t₂,i₂,[],0⟩] scope pos) 0 it acc env) R s:=by
 refine codeAny_loop rfl I (fun n s hI=>?_) n h
 show wpAny _ A ((compTurn (.ListComp elt [⟨t₁,i₁,[],0⟩,⟨t₂,i₂,[],0⟩] scope pos) 0 it acc env).onRaise (fun x=>do noteFrame x env;theTreesLotGoes x)) _ _ s
 refine wpAny_noted ?_
 rw [compTurn_two0]
 refine wpAny_bind (wpAny_standAt (wpAny_bind (wpAny_mono (turn n s hI) (fun r s₁ h₁=>?_) fun _ _ f=>f.elim)))
 cases r with
 | none=>exact wpAny_pure h₁
 | some v =>
  dsimp only at h₁ ⊢
  refine wpAny_bind (wpAny_of_eq (ht v) (wpAny_bind (wpAny_mono h₁ (fun _ s₂ h₂=>?_) fun _ _ f=>f.elim)))
  refine wpAny_bind (wpAny_mono h₂ (fun x s₃ h₃=>?_) fun _ _ f=>f.elim)
  refine wpAny_bind (wpAny_standAt (wpAny_bind (wpAny_of_eq (hs x) (wpAny_bind (wpAny_holding (wpAny_mono h₃ (fun it' s₄ h₄=>?_) fun _ _ f=>f.elim))))))
  refine wpAny_bind (wpAny_runOwn (h:=none) (codeAny_mono h₄ fun r s₅ h₅=>?_))
  cases r with
  | ok f=>exact wpAny_pure ⟨rfl,h₅⟩
  | error e=>exact h₅.elim
theorem loop_inner (I:Nat→Shared→Prop)
  (turn:∀ n s,I n s→wpAny (model prog w) A (pyNext it) (fun r s₁=>match r with
   | none=>R (.ok .next) s₁
   | some v=>wpAny (model prog w) A (assign t₂ env v) (fun _ s₂=>wpAny (model prog w) A (eval elt env) (fun x s₃=>wpAny (model prog w) A (call (.builtin "list.append") [acc,x]) (fun _ s₅=>∃ m,m<n∧I m s₅) noE s₃) noE s₂) noE s₁) noE s)
  (n:Nat) (h:I n s) (ht:∀ v,letOwnedTupleGo t₂ it v=pure ()) :
  codeAny (model prog w) A (.compLoop (.ListComp elt [⟨t₁,i₁,[],0⟩,⟨t₂,i₂,[],0⟩] scope pos) 1 it acc env) R s:=by
 refine codeAny_loop rfl I (fun n s hI=>?_) n h
 show wpAny _ A ((compTurn (.ListComp elt [⟨t₁,i₁,[],0⟩,⟨t₂,i₂,[],0⟩] scope pos) 1 it acc env).onRaise (fun x=>do noteFrame x env;theTreesLotGoes x)) _ _ s
 refine wpAny_noted ?_
 rw [compTurn_two1]
 refine wpAny_bind (wpAny_standAt (wpAny_bind (wpAny_mono (turn n s hI) (fun r s₁ h₁=>?_) fun _ _ f=>f.elim)))
 cases r with
 | none=>exact wpAny_pure h₁
 | some v =>
  dsimp only at h₁ ⊢
  refine wpAny_bind (wpAny_of_eq (ht v) (wpAny_bind (wpAny_mono h₁ (fun _ s₂ h₂=>?_) fun _ _ f=>f.elim)))
  refine wpAny_bind (wpAny_bind (wpAny_mono h₂ (fun x s₃ h₃=>?_) fun _ _ f=>f.elim))
  exact wpAny_bind (wpAny_mono h₃ (fun _ s₅ h₅=>wpAny_pure (wpAny_pure ⟨rfl,h₅⟩)) fun _ _ f=>f.elim)
theorem start_inner (h0:codeAny (model prog w) A (.compLoop (.ListComp elt [⟨t₁,i₁,[],0⟩,⟨t₂,i₂,[],0⟩] scope pos) 1 it acc env) R s)
  (h:wpAny (model prog w) A (pyIter it) (fun it' s'=>codeAny (model prog w) A (.compLoop (.ListComp elt [⟨t₁,i₁,[],0⟩,⟨t₂,i₂,[],0⟩] scope pos) 1 it' acc env) R s') noE s) :
  codeAny (model prog w) A (.compStart (.ListComp elt [⟨t₁,i₁,[],0⟩,⟨t₂,i₂,[],0⟩] scope pos) 1 it acc env) R s:=by
 refine codeAny_of_tree ?_
 show wpAny _ _ ((compStart (.ListComp elt [⟨t₁,i₁,[],0⟩,⟨t₂,i₂,[],0⟩] scope pos) 1 it acc env).onRaise (fun x=>do noteFrame x env;standAt theWindowsPlace)) _ _ s
 refine wpAny_notedAt ?_
 unfold compStart
 show wpAny _ _ (ask >>= _) _ _ s
 refine wpAny_bind (wpAny_askSetting (wpAny_ite ?_))
 split
 ·first
   | exact wpAny_bind (wpAny_pure (wpAny_pure (And.intro rfl h0)))
   | exact wpAny_pure (And.intro rfl h0)
 ·first
   | exact wpAny_bind (wpAny_rule (wpAny_bind (wpAny_standAt (wpAny_bind (wpAny_mono h (fun it' s' h'=>wpAny_pure (And.intro rfl h')) fun _ _ f=>f.elim)))))
   | (refine wpAny_bind (wpAny_rule ?_);show wpAny _ _ (standAt i₂.pos >>= _) _ _ s;exact wpAny_bind (wpAny_standAt (wpAny_bind (wpAny_mono h (fun it' s' h'=>wpAny_pure (And.intro rfl h')) fun _ _ f=>f.elim))))
end
section
variable {W:Setup} {n:Nat} {F F':Frame W n} {ρ ρ':Rho} {T T':TH} {w w' w₀ w₁:Wd} {p q d elt it it2:E} {e i₁ i₂:Expr} {pos p₁ p₂ cp:Pos} {v x y:V} {z:Option V} {nm t₁ t₂:Str} {X:Addr→Prop} {s:Shared} {I L D:Addr} {isc:Scope} {kk:K}
theorem Here.sub (h:Here F ρ T w) (hs:∀ (i:Nat) v,(ρ'[i]?).join=some v→(ρ[i]?).join=some v):Here F ρ' T w:=by
 obtain⟨m,ns,ha⟩:=h.f
 exact⟨⟨m,ns,fun hv=>ha (hs _ _ hv)⟩,h.nf,h.st⟩
structure Inner (F':Frame W n) (x:V) (T:TH) (kk:K) (acc:List V) (w:Wd) (I D:Addr) (z:Option V) (w':Wd):Prop where
 h:Here F' [some x,z] (T++[(kk,.list acc)]) w'
 e:Le (own F') w w'
 nf:¬ foot w' I
theorem comp_inner {o2:Nat} {k2:K} {l2 acc:List V} {pp:Addr×Addr} {g:V→V} {R:Result→Shared→Prop} (hE:ESnd F' elt e) (hb:bindsAs F'.names F'.sc 1 t₂=true) (hl:T[o2]?=some (k2,.list l2)) (hlim:acc.length+l2.length≤limit) (hi:w.ads[o2]?=some pp)
  (ad:w.ads[T.length]?=some (D,D)) (hs:∀ y T'',y∈l2→Chg noX T T''→PureX (fun T Q=>EV (CN n) [some x,some y] elt T Q) T'' (g y)) (hI:w.s.heap.get? I=none) (nI:I≠F'.env.locals) (hgI:W.g.get? I=none) (C:Inner F' x T kk acc w I D none w₁) (hit:w₁.s.heap.IsListIter I pp.1 0)
  (hR:∀ z w',Here F' [some x,z] (T++[(kk,.list (acc++l2.map g))]) w'→Le (own F') w w'→R (.ok .next) w'.s) :
  codeAny W.M F'.A (.compLoop (.ListComp e [⟨.Name t₁ p₁,i₁,[],0⟩,⟨.Name t₂ p₂,i₂,[],0⟩] isc pos) 1 (.ref I) (.ref D) F'.env) R w₁.s:=by
 refine loop_inner (fun k' s'=>∃ j z w',k'=l2.length-j∧w'.s=s'∧Inner F' x T kk (acc++(l2.take j).map g) w I D z w'∧w'.s.heap.IsListIter I pp.1 j) ?_ _ ⟨0,none,w₁,rfl,rfl,by rw [List.take_zero,List.map_nil,List.append_nil];exact C,hit⟩ fun _=>rfl
 clear C hit
 rintro _ _ ⟨j,z,w₂,rfl,rfl,C,hit⟩
 refine next_item F'.hh C.h.st (get_old hl) (C.e.at_ hi) hit (fun hle h' hk=>?_) fun y yv h' hv hx hit' hk=>?_
 ·have z:=C.h.but (s:={w₂.s with heap:=h'}) (IsListIter.fields hit) nI hk C.nf hgI
  rw [List.take_of_length_le hle] at z
  exact hR _ ⟨w₂.ads,{w₂.s with heap:=h'}⟩ z.1 (C.e.behind hk rfl rfl hI)
 ·have hlt:=(List.getElem?_eq_some_iff.mp hv).1
  have htk:acc++(l2.take (j+1)).map g=acc++(l2.take j).map g++[g y]:=by rw [List.take_add_one,hv,List.map_append,List.append_assoc];rfl
  have z:=C.h.but (s:={w₂.s with heap:=h'}) (IsListIter.fields hit) nI hk C.nf hgI
  have e₂:=C.e.behind (s:={w₂.s with heap:=h'}) hk rfl rfl hI
  refine wpAny_assign_Name (store_core (ρ':=[some x,some y]) (w:=⟨w₂.ads,{w₂.s with heap:=h'}⟩) z.1 hb rfl (z.2 hx) fun w₃ h₃ e₃ _=>?_)
  have it₃:=iter_keep e₃ hit' C.nf nI
  refine hE (hs y _ (List.mem_of_getElem? hv) (chg_end (kk:=kk) (o:=.list (acc++(l2.take j).map g)))) h₃ fun u T₅ uv w₅ ⟨hu,hT⟩ r₅ h₅ e₅=>?_
  subst hu;subst hT
  have it₅:=iter_keep e₅ it₃.1 it₃.2 id
  have e₅:=(e₂.trans e₃).trans e₅.any
  refine push_st (pp:=(D,D)) h₅.st get_end (e₅.at_ ad) (by rw [List.length_append,List.length_map,List.length_take];lia) r₅ fun w₆ S₆ e₆ _=>?_
  rw [set_end,←htk] at S₆
  have it₆:=iter_keep e₆ it₅.1 it₅.2 id
  exact⟨l2.length-(j+1),by lia,j+1,some y,w₆,rfl,rfl,⟨h₅.ext S₆ e₆,e₅.trans e₆.any,it₆.2⟩,it₆.1⟩
theorem comp_outer {o:Nat} {k₀:K} {ll:List V} {pp:Addr×Addr} {f:V→List V} {R:Result→Shared→Prop} (hE:ESnd F' elt e) (hE2:ESnd F' it2 i₂) (hns:notSet i₂=true) (hb1:bindsAs F'.names F'.sc 0 t₁=true) (hb2:bindsAs F'.names F'.sc 1 t₂=true)
  (hl:T[o]?=some (k₀,.list ll)) (hlim:(ll.flatMap f).length≤limit) (hi:w.ads[o]?=some pp) (hs:∀ x T',x∈ll→Chg noX T T'→Comp2I (fun ρ T Q=>EV (CN n) ρ elt T Q) (fun ρ T Q=>EV (CN n) ρ it2 T Q) T x T' (f x))
  (C:CompS F F' ρ [none,none] T (T++[(kk,.list [])]) w I D w₁) (hit:w₁.s.heap.IsListIter I pp.1 0) (hR:∀ w',CompEnd F ρ (T++[(kk,.list (ll.flatMap f))]) w T.length D F'.env.locals w'→R (.ok .next) w'.s) :
  codeAny W.M F'.A (.compLoop (.ListComp e [⟨.Name t₁ p₁,i₁,[],0⟩,⟨.Name t₂ p₂,i₂,[],0⟩] isc pos) 0 (.ref I) (.ref D) F'.env) R w₁.s:=by
 refine loop_outer (fun k' s'=>∃ j z w',k'=ll.length-j∧w'.s=s'∧CompS F F' ρ [z,none] T (T++[(kk,.list ((ll.take j).flatMap f))]) w I D w'∧w'.s.heap.IsListIter I pp.1 j) ?_ _ ⟨0,none,w₁,rfl,rfl,C,hit⟩ (fun _=>rfl) (folded_of hns)
 clear C hit
 rintro _ _ ⟨j,z₀,w₂,rfl,rfl,C,hit⟩
 refine next_item F'.hh C.h'.st (get_old hl) (C.e.at_ hi) hit (fun hle h' hk=>?_) fun v xv h' hv hx hit' hk=>?_
 ·have z:=C.fin (i:=0) (kk:=kk) hk (IsListIter.fields hit)
  rw [List.take_of_length_le hle] at z
  exact hR _ z
 ·have hlt:=(List.getElem?_eq_some_iff.mp hv).1
  have htk:(ll.take (j+1)).flatMap f=(ll.take j).flatMap f++f v:=by rw [List.take_add_one,hv,List.flatMap_append];show _++(f v++[])=_;rw [List.append_nil]
  have nI:=C.ne
  have z:=C.h'.but (s:={w₂.s with heap:=h'}) (IsListIter.fields hit) nI hk C.nf (C.h.st.gnone C.newI)
  have e₂:=C.e.behind (s:={w₂.s with heap:=h'}) hk rfl rfl C.newI
  cases hs v _ (List.mem_of_getElem? hv) (chg_end (kk:=kk) (o:=.list ((ll.take j).flatMap f))) with|@mk o2 k2 l2 g hl2 hg hit2 hel =>
  refine wpAny_assign_Name (store_core (ρ':=[some v,none]) (w:=⟨w₂.ads,{w₂.s with heap:=h'}⟩) z.1 hb1 rfl (z.2 hx) fun w₃ h₃ e₃ _=>?_)
  have it₃:=iter_keep e₃ hit' C.nf nI
  have ad₃:=e₃.at_ C.ad
  have e₃:=(e₂.any.trans e₃).gone C.newL
  refine hE2 hit2 h₃ fun u T₅ uv w₅ ⟨hu,hT⟩ r₅ h₅ e₅=>?_
  subst hu;subst hT
  have it₅:=iter_keep e₅ it₃.1 it₃.2 id
  refine VR.on_obj r₅ fun p2 hi2=>St.on_list h₅.st (get_old hl2) hi2 fun aL vs m hi2 ha hv2=>?_
  ·
    refine wpAny_pyIter_list ⟨_,ha,rfl,m,rfl⟩ ?_
    have hI5:=get_size w₅.s.heap
    have y:=h₅.pushed (ob:={cls:=.type "list_iterator",data:=.fields #[.ref aL,.int 0 0]}) (t:=w₅.s.toks)
    have nf5:=h₅.st.not_foot hI5
    have hacc:((ll.take j).flatMap f).length+l2.length≤limit:=by
     have h1:((ll.take (j+1)).flatMap f).length≤(ll.flatMap f).length:=by
      rw [←List.take_append_drop (j+1) ll,List.flatMap_append,List.length_append,List.take_append_drop];exact Nat.le_add_right _ _
     rw [htk,List.length_append,hg,List.length_map] at h1
     exact Nat.le_trans h1 hlim
    have fin:=comp_inner (i₁:=i₁) (i₂:=i₂) (t₁:=t₁) (p₁:=p₁) (p₂:=p₂) (pos:=pos) (isc:=isc) (w:=w₅) (w₁:=⟨w₅.ads,{w₅.s with heap:=w₅.s.heap.push {cls:=.type "list_iterator",data:=.fields #[.ref aL,.int 0 0]}}⟩) (I:=w₅.s.heap.objs.size) (R:=fun r s₅'=>match r with|.ok _=>∃ m',m'<ll.length-j∧∃ j z w',m'=ll.length-j∧w'.s=s₅'∧CompS F F' ρ [z,none] T (T++[(kk,.list ((ll.take j).flatMap f))]) w I D w'∧w'.s.heap.IsListIter I pp.1 j|.error _=>False)
     hE hb2 hl2 hacc hi2 (e₅.at_ ad₃) hel hI5 (h₅.not_own hI5) (h₅.st.gnone hI5) ⟨y.1,y.2.any,nf5⟩ ⟨_,Heap.get?_push_size _ rfl,rfl,rfl⟩ fun z w₇ h₇ e₇=>by
      have it₇:=iter_keep e₇ it₅.1 it₅.2 nI
      have e:=((e₃.trans e₅).any.trans e₇).gone C.newL
      refine⟨ll.length-(j+1),by omega,j+1,some v,w₇,rfl,rfl,⟨C.h,?_,e,e₇.at_ (e₅.at_ ad₃),it₇.2,C.newL,C.newI,nI⟩,it₇.1⟩
      rw [htk,hg]
      exact h₇.sub fun i u hi=>by
       cases i with
       | zero=>exact hi
       | succ i=>cases i<;>cases hi
    exact start_inner fin (wpAny_pyIter_listiter (s:={w₅.s with heap:=w₅.s.heap.push {cls:=.type "list_iterator",data:=.fields #[.ref aL,.int 0 0]}}) ⟨_,Heap.get?_push_size _ rfl,rfl,rfl⟩ fin)
theorem binds_end2 {sc:Scope} (K:CompOk sc isc [] [t₁,t₂]):bindsAs [t₁,t₂] isc 1 t₂=true:=by
 simp only [bindsAs,kindIn,K.tgs t₂ (.tail _ (.head _)),beq_self_eq_true,Bool.and_true];exact beq_self_eq_true _
structure CompP2 (F:Frame W n) (elt it it2:E) (e i₁ i₂:Expr) (t₁ t₂:Str) (isc:Scope):Prop where
 K:CompOk F.sc isc [] [t₁,t₂]
 ns:notSet i₁=true
 ns2:notSet i₂=true
 it:ESnd F it i₁
 e:∀ F':Frame W n,F'.names=[t₁,t₂]→F'.sc=isc→ESnd F' elt e
 it2:∀ F':Frame W n,F'.names=[t₁,t₂]→F'.sc=isc→ESnd F' it2 i₂
theorem comp2_run {Q:PE'} {use:Option (Value→Sem Unit)} {R:Value→Shared→Prop} (P:CompP2 F elt it it2 e i₁ i₂ t₁ t₂ isc) (hw:EV (CN n) ρ (.comp2 elt it it2) T Q) (hr:Here F ρ T w)
  (k:∀ {T' i D L w₁ w'},Q (.obj i) T'→Le noA w w₁→CompEnd F ρ T' w₁ i D L w'→compPost W.M F.A noE use R (.ref D) L (.ok .next) w'.s) :
  wpAny W.M F.A (comprehension (.ListComp e [⟨.Name t₁ p₁,i₁,[],0⟩,⟨.Name t₂ p₂,i₂,[],0⟩] isc pos) isc F.env cp (newList []) false (eval i₁ F.env) use) R noE w.s:=by
 refine comp_any (g:=⟨.Name t₁ p₁,i₁,[],0⟩) (cap:=[]) (k:=2) (use:=use) (Q:=R) rfl P.ns P.K rfl rfl P.it hw hr (fun x T' q=>?_) fun {x T₁ w₁ o pp cl I D L hL w'} q hx hi h₁ e₁ C hit=>?_
 ·cases q with|mk kk f h=>exact⟨_,_,_,rfl,h⟩
 ·cases q with
  | mk kk f hT hlim hs q =>
   cases hx
   exact comp_outer (F':=F.inner P.K cl L hL) (P.e _ rfl rfl) (P.it2 _ rfl rfl) P.ns2 (binds_end (cap:=[]) P.K rfl) (binds_end2 P.K) hT hlim hi hs (C kk) hit fun w' E=>k (q.ex _ _ (List.getElem?_eq_none (Nat.le_refl _)) get_end chg_end) e₁ E
theorem snd_comp2 (P:CompP2 F elt it it2 e i₁ i₂ t₁ t₂ isc):ESnd F (.comp2 elt it it2) (.ListComp e [⟨.Name t₁ p₁,i₁,[],0⟩,⟨.Name t₂ p₂,i₂,[],0⟩] isc pos):=fun {ρ T w Q R} hw hr k=>by
 rw [eval_ListComp]
 exact comp2_run (use:=none) P hw hr fun q e C=>comp_take k e q C
theorem ssnd_comp2 {j:Nat} {spos ppos:Pos} (hb:bindsAs F.names F.sc j nm=true) (hsw:∀ env,env.scope.kind=.function→env.kindOf nm=some .local→swapsWith (.ListComp e [⟨.Name t₁ p₁,i₁,[],0⟩,⟨.Name t₂ p₂,i₂,[],0⟩] isc pos) (some (.Name nm ppos)) spos.line env=pure true) (P:CompP2 F elt it it2 e i₁ i₂ t₁ t₂ isc) :
  SSnd F (.assign (.loc j) (.comp2 elt it it2)) (.Assign [.Name nm ppos] (.ListComp e [⟨.Name t₁ p₁,i₁,[],0⟩,⟨.Name t₂ p₂,i₂,[],0⟩] isc pos) spos):=fun {ρ T w Q R} hw hr k=>by
 have hb':=hb
 simp only [bindsAs,kindIn,Bool.and_eq_true,beq_iff_eq] at hb'
 rw [exec_Assign_Name_used _ _ _ _ (hsw F.env F.fn (F.loc _ hb'.2))]
 refine wpAny_bind (wpAny_standAt (wpAny_bind ?_))
 show wpAny _ F.A (do let _ ←comprehension (.ListComp e [⟨.Name t₁ p₁,i₁,[],0⟩,⟨.Name t₂ p₂,i₂,[],0⟩] isc pos) isc F.env _ (newList []) false (eval i₁ F.env) (some (assign (.Name nm ppos) F.env))) _ _ w.s
 refine wpAny_bind (wpAny_mono (comp2_run (R:=fun _ s=>R .next s) (use:=some (assign (.Name nm ppos) F.env)) P hw hr fun {T' i D L w₁ w'} q e C=>GetM.on q fun ρ' he q=>comp_bind hb he (fun w' h x=>k none ρ' T' .next w' q trivial h x) e C) (fun _ s' hq=>wpAny_pure (wpAny_pure hq)) fun _ _ e=>e)
end
end Mine
set_option genInjectivity false
namespace Mine
open PySem PySem.W PySem.Calls PyProof.Rows PySem.Spec
theorem zip_filterMap {f:Str→Option Value}:∀ {names:List Str} {xs:List Value},xs.length=names.length→(∀ {i:Nat} {nm},names[i]?=some nm→f nm=xs[i]?)→names.filterMap (fun n=>(f n).map (n,·))=names.zip xs:=by
 intro names
 induction names with
 | nil=>exact fun _ _=>rfl
 | cons k names ih =>
  intro xs h hf
  cases xs with
  | nil=>cases h
  | cons x xs =>
   rw [List.filterMap_cons,hf (i:=0) rfl]
   exact congrArg ((k,x)::·) (ih (Nat.succ.inj h) fun {i nm} a=>hf (i:=i+1) a)
theorem bind_plain {fd:FuncData} {xs:List Value} (h1:fd.params.posonlyargs=[]) (h2:fd.params.kwonlyargs=[]) (h3:fd.params.vararg=none) (h4:fd.params.kwarg=none) (hd:fd.defaults=.none)
  (hl:xs.length=fd.params.args.length) (hn:(fd.params.args.map (·.arg)).Nodup):bindArgs fd ⟨xs,[]⟩=pure ((fd.params.args.map (·.arg)).zip xs):=by
 obtain⟨_,_,⟨_,as,_,_,_,_,_⟩,_,_,_,_,_,_,_,_,_,_,_,_⟩:=fd
 dsimp only at h1 h2 h3 h4 hd hl hn
 subst h1 h2 h3 h4 hd
 dsimp only
 have hl':xs.length=(as.map (·.arg)).length:=by rw [List.length_map];exact hl
 have hat:∀ {i:Nat} {nm},(as.map (·.arg))[i]?=some nm→((as.map (·.arg)).zip xs).lookup nm=xs[i]?:=fun h=>lookup_zip hn h
 have hall:List.filter (fun n=>(((as.map (·.arg)).zip xs).lookup n).isNone) (as.map (·.arg))=[]:=by
  rw [List.filter_eq_nil_iff]
  intro n hn
  obtain⟨i,hi⟩:=List.getElem?_of_mem hn
  rw [hat hi,List.getElem?_eq_getElem (by rw [hl'];exact (List.getElem?_eq_some_iff.mp hi).1)]
  exact Bool.false_ne_true
 have hfm:=zip_filterMap (f:=fun n=>((as.map (·.arg)).zip xs).lookup n) hl' hat
 have e0:([]:List Value).drop (0-(as.map (·.arg)).length)=[]:=List.drop_nil
 refine (if_neg (c:=(decide (xs.length > (as.map (·.arg)).length)&&true)=true) ?_).trans ((if_neg (c:=(!(((as.map (·.arg)).take ((as.map (·.arg)).length-(([]:List Value).drop (0-(as.map (·.arg)).length)).length)).filter fun n=>(((as.map (·.arg)).zip xs).lookup n).isNone).isEmpty)=true) ?_).trans ?_)
 ·rw [Bool.and_true,decide_eq_false (Nat.not_lt_of_le (Nat.le_of_eq hl'))];exact Bool.false_ne_true
 ·rw [e0,show (as.map (·.arg)).take ((as.map (·.arg)).length-([]:List Value).length)=as.map (·.arg) from List.take_length,hall];exact Bool.false_ne_true
 ·show ((forIn (((as.map (·.arg)).drop ((as.map (·.arg)).length-(([]:List Value).drop (0-(as.map (·.arg)).length)).length)).zip (([]:List Value).drop (0-(as.map (·.arg)).length))) ((as.map (·.arg)).zip xs) _:Sem _) >>= _)=_
  rw [e0,List.zip_nil_right]
  exact (congrArg (fun l=>(pure (l.filterMap fun n=>(((as.map (·.arg)).zip xs).lookup n).map (n,·)):Sem _)) (List.append_nil (as.map (·.arg)))).trans (congrArg pure hfm)
noncomputable def forTarget (ns:List Str) (sc:Scope) (t:List Nat) (q:Expr):Bool:=cE q (nm:=fun x=>one' t fun i=>bindsAs ns sc i x) (tu:=fun es=>decide (2≤t.length)&&locsIs ns sc t es)
noncomputable def matchT (ns:List Str) (sc:Scope) (q:Expr):Mine.T→Bool
 | .loc i=>cE q (nm:=fun x=>bindsAs ns sc i x)
 | .locs l=>cE q (tu:=fun es=>locsIs ns sc l es)
 | .attr a c i=>cE q (at_:=fun v x _=>matchE a ns sc v&&(attrsOf c)[i]?==some x)
 | .idx a b=>cE q (su:=fun v i=>!isSlice i&&matchE a ns sc v&&matchE b ns sc i)
 | .wk a k=>cE q (su:=fun v i=>isStr i fun x=>matchE a ns sc v&&tab.wks[k]?==some x)
noncomputable def assignOk (t:Mine.T) (te l:Expr):Bool:=match t with
 | .loc _=>cE te (nm:=fun x=>!isLC l||cE l (lc:=fun _ _ sc=>te.pos.line==l.pos.line&&!(sc.names.any fun q=>q.1==x&&(q.2==.local||q.2==.cell))))
 | .locs _=>!cE l (tu:=fun _=>true)
 | _=>true
noncomputable def cS (q:Stmt) (as:List Expr→Expr→Bool:=fun _ _=>false) (au:Expr→Operator→Expr→Bool:=fun _ _ _=>false) (ex:Expr→Bool:=fun _=>false) (re:Option Expr→Bool:=fun _=>false) (pa:Bool:=false) (if_:Expr→List Stmt→List Stmt→Bool:=fun _ _ _=>false) (wh:Expr→List Stmt→List Stmt→Bool:=fun _ _ _=>false) (fo:Expr→Expr→List Stmt→List Stmt→Bool:=fun _ _ _ _=>false):Bool:=match q with
 | .Assign ts v _=>as ts v
 | .AugAssign t o v _=>au t o v
 | .Expr v _=>ex v
 | .Return v _=>re v
 | .Pass _=>pa
 | .If t x y _=>if_ t x y
 | .While t x y _=>wh t x y
 | .For t i x y _=>fo t i x y
 | _=>false
mutual
noncomputable def matchS (ns:List Str) (sc:Scope):S→Stmt→Bool
 | .assign t e,q=>cS q (as:=fun ts v=>one' ts fun te=>matchT ns sc te t&&matchE e ns sc v&&assignOk t te v)
 | .augl i op e,q=>cS q (au:=fun t o v=>cE t (nm:=fun x=>o==opOf op&&bindsAs ns sc i x&&plainName x&&matchE e ns sc v))
 | .auga a c i op e,q=>cS q (au:=fun t o v=>cE t (at_:=fun b x _=>o==opOf op&&matchE a ns sc b&&(attrsOf c)[i]?==some x&&matchE e ns sc v))
 | .expr e,q=>cS q (ex:=fun v=>matchE e ns sc v&&!isLC v)
 | .ret e,q=>cS q (re:=fun v=>some' v (fun v=>matchE e ns sc v)||(nil' v&&litIs e isNoneV))
 | .pass,q=>cS q (pa:=true)
 | .ite c a b,q=>cS q (if_:=fun t x y=>matchE c ns sc t&&matchSs ns sc a x&&matchSs ns sc b y)
 | .while c b,q=>cS q (wh:=fun t x y=>none' y&&matchE c ns sc t&&matchSs ns sc b x)
 | .forI t e b,q=>cS q (fo:=fun t' i x y=>none' y&&forTarget ns sc t t'&&matchE e ns sc i&&notSet i&&matchSs ns sc b x)
 | .forR t e b,q=>cS q (fo:=fun t' i x y=>none' y&&forTarget ns sc [t] t'&&matchSs ns sc b x&&call' i fun r es=>r==("range":Str)&&globalAs sc r&&one' es fun m=>notStar m&&matchE e ns sc m)
 | .stuck,_=>true
noncomputable def matchSs (ns:List Str) (sc:Scope):List S→List Stmt→Bool
 | [],l=>none' l
 | a::r,l=>cons' l fun e s=>matchS ns sc a e&&matchSs ns sc r s
end
structure FnOk (h:Heap) (fd:FuncData) (body:List Stmt) (names:List Str) (md:Fn):Prop where
 h1:fd.params.posonlyargs=[]
 h2:fd.params.kwonlyargs=[]
 h3:fd.params.vararg=none
 h4:fd.params.kwarg=none
 dflt:fd.defaults=.none
 clo:fd.closure=[]
 gl:fd.globals=mainGlobals
 bl:fd.builtins=builtinsNs
 isBody:fd.body=.stmts body
 code:h.CodeRec fd.code fd.qualname
 co:fd.scope.isCoroutine=false
 gen:fd.scope.isGenerator=false
 kind:fd.scope.kind=.function
 nd:names.Nodup
 par:fd.params.args.map (·.arg)=names.take md.np
 np:md.np≤names.length
 kinds:∀ x∈names.take md.np,fd.scope.names.lookup x=some .local∨(fd.scope.names.lookup x=some .cell∧∀ k,((cellsFrom k fd.scope.names []).lookup x).isSome=true)
 bodyOk:matchSs names fd.scope md.body body=true
section
variable {nm:Str} {x:Value} {ko:Str→Option NameKind}
theorem bindL_keep {names:List Str}:∀ {xs:List Value} {m:Str→Option Value},nm∉names→bindL ko (names.zip xs) m nm=m nm:=by
 induction names with
 | nil=>intro xs m _;rfl
 | cons a names ih =>
  intro xs m ha
  cases xs with
  | nil=>rfl
  | cons b xs =>
   rw [List.mem_cons,not_or] at ha
   rw [List.zip_cons_cons,bindL,ih ha.2]
   split
   ·exact if_neg ha.1
   ·rfl
theorem bindC_keep {names:List Str}:∀ {xs:List Value} {m:Str→Option Value},nm∉names→bindC ko (names.zip xs) m nm=m nm:=by
 induction names with
 | nil=>intro xs m _;rfl
 | cons a names ih =>
  intro xs m ha
  cases xs with
  | nil=>rfl
  | cons b xs =>
   rw [List.mem_cons,not_or] at ha
   rw [List.zip_cons_cons,bindC,ih ha.2]
   split
   ·rfl
   ·exact if_neg ha.1
theorem bind_get {names:List Str}:∀ {xs:List Value} {m m':Str→Option Value} {i:Nat},names.Nodup→names[i]?=some nm→xs[i]?=some x→(ko nm=some .local→bindL ko (names.zip xs) m nm=some x)∧(ko nm≠some .local→bindC ko (names.zip xs) m' nm=some x):=by
 induction names with
 | nil=>intro _ _ _ _ _ h;cases h
 | cons k names ih =>
  intro xs m m' i hn h1 h2
  cases xs with
  | nil=>cases h2
  | cons y xs =>
   rw [List.nodup_cons] at hn
   rw [List.zip_cons_cons,bindL,bindC]
   cases i with
   | zero =>
    cases h1;cases h2
    rw [bindL_keep hn.1,bindC_keep hn.1]
    exact⟨fun hk=>by rw [if_pos hk];exact if_pos rfl,fun hk=>by rw [if_neg hk];exact if_pos rfl⟩
   | succ i=>exact ih hn.2 h1 h2
end
section
variable {W:Setup} {n:Nat} {T:TH} {w:Wd} {Q:PE'} {A:Around} {fd:FuncData} {body:List Stmt} {names:List Str} {md:Fn} {xs:List Value} {vs:List V} {P:Value→Shared→Prop}
noncomputable def Frame.of (F:FnOk W.g fd body names md) (hA:AOKc (n+1) A) (env:Env) (hsc:env.scope=fd.scope) (hgl:env.globals=fd.globals) (hbl:env.builtins=fd.builtins) (hL:W.g.get? env.locals=none):Frame W n where
 names:=names
 sc:=fd.scope
 A:=A.deeper env
 env:=env
 hh:=hA.hh
 depth:=by have:=hA.depth;show A.depth+1+3*n+5<_;omega
 units:=by have:=hA.units;show A.units+3+10*n+100<_;omega
 fn:=by rw [hsc];exact F.kind
 gl:=hgl.trans F.gl
 bl:=hbl.trans F.bl
 loc:=fun y h=>by unfold Env.kindOf;rw [hsc];exact h
 glob:=fun y h=>by unfold Env.kindOf;rw [hsc];exact h
 cell:=fun y h=>by unfold Env.kindOf;rw [hsc];exact h
 low:=hL
 nd:=F.nd
theorem call_core (F:FnOk W.g fd body names md) (hb:∀ F':Frame W n,F'.names=names→F'.sc=fd.scope→SsSnd F' md.body body) {f:Nat} {o:Obj} (ho:W.g.get? (W.fn f)=some o) (hd:o.data=.func fd) (hA:AOKc (n+1) A) (S:St W T w) (hv:VRs w vs xs) (hlen:vs.length=md.np)
  (q:SV (CN n) (vs.map some++List.replicate (md.nl-md.np) none) md.body T fun r T=>Q (r.1.getD .none) T) (k:∀ v T' x w',Q v T'→VR w' v x→St W T' w'→Le noA w w'→P x w'.s) :
  codeAny W.M A (.call (.ref (W.fn f)) ⟨xs,[]⟩) (RetIs P) w.s:=by
 have xl:=hv.length
 have hl:xs.length=fd.params.args.length:=by
  have:=congrArg List.length F.par
  rw [List.length_map,List.length_take,Nat.min_eq_left F.np] at this
  rw [this,←xl,hlen]
 have hnd:(names.take md.np).Nodup:=(List.take_sublist _ _).nodup F.nd
 have hbind:=bind_plain (xs:=xs) F.h1 F.h2 F.h3 F.h4 F.dflt hl (by rw [F.par];exact hnd)
 rw [F.par] at hbind
 have hLn:=get_size w.s.heap
 refine codeAny_call_cells (by have:=hA.depth;lia) (S.base ho) hd (W.nol.keeps fun _ _=>S.base) (F.code.keeps fun _ _=>S.base) F.isBody hbind F.clo (fun x hx=>(F.kinds x.1 (List.of_mem_zip hx).1).imp id fun h=>⟨h.1,h.2 _⟩) (fun s₁ X=>?_) F.co F.gen F.kind
 obtain⟨h',tk,rfl,kp⟩:=X.done
 have x:=Le.kept (w:=w) (s:={w.s with heap:=h',toks:=tk}) (fun {b o}=>kp b o) rfl rfl
 have S':=S.kept (s:={w.s with heap:=h',toks:=tk}) (fun {b o}=>kp b o) rfl rfl
 have hL:(callEnvC fd w.s.heap.objs.size (W.fn f)).locals=w.s.heap.objs.size:=rfl
 have hr:Here (Frame.of F hA (callEnvC fd w.s.heap.objs.size (W.fn f)) rfl rfl rfl (S.gnone hLn)) (vs.map some++List.replicate (md.nl-md.np) none) T ⟨w.ads,{w.s with heap:=h',toks:=tk}⟩:=by
  refine⟨⟨_,X.toInCall.ns,fun {i v} hi=>?_⟩,S.not_foot hLn,S'⟩
  have hiv:vs[i]?=some v:=by
   rcases Nat.lt_or_ge i (vs.map some).length with h|h
   ·rw [List.getElem?_append_left h,List.getElem?_map] at hi
    cases q:vs[i]? with
    | none=>rw [q] at hi;cases hi
    | some w=>rw [q] at hi;exact hi
   ·rw [List.getElem?_append_right h,List.getElem?_replicate] at hi
    split at hi<;>cases hi
  obtain⟨xv,hx,hxr⟩:=hv.get hiv
  have hlt:i<md.np:=by rw [←hlen];exact (List.getElem?_eq_some_iff.mp hiv).1
  obtain⟨nm,hnm⟩:∃ nm,names[i]?=some nm:=⟨_,List.getElem?_eq_getElem (Nat.lt_of_lt_of_le hlt F.np)⟩
  have hnt:(names.take md.np)[i]?=some nm:=by rw [List.getElem?_take_of_lt hlt];exact hnm
  have hg:=fun m m'=>bind_get (ko:=(callEnvC fd w.s.heap.objs.size (W.fn f)).kindOf) (m:=m) (m':=m') hnd hnt hx
  refine⟨nm,xv,hnm,S.mono x hxr,?_⟩
  rcases F.kinds nm (List.mem_of_getElem? hnt) with hk|⟨hk,hc⟩
  ·exact .loc hk ((hg _ (fun _=>none)).1 hk)
  ·obtain⟨c,hc⟩:=Option.isSome_iff_exists.mp (hc (w.s.heap.objs.size+1))
   refine .cell (.inl hk) hc ?_ (S.not_foot (none_ge (Nat.le_of_lt (X.above nm c (mem_of_lookup hc)))))
   have:=X.cell nm c hc
   rwa [(hg (fun _=>none) _).2 (by show fd.scope.names.lookup nm≠_;rw [hk];decide)] at this
 refine noE.up (hb _ rfl rfl q hr fun o ρ' T' fl w' q f h e=>?_)
 have e:=(x.any.trans e).gone hLn
 cases o with
 | none =>
  cases fl<;>first|exact f.elim|skip
  exact k .none T' .none w' q .none h.st e
 | some v =>
  cases fl<;>first|exact f.elim|skip
  exact k v T' _ w' q f h.st e
end
end Mine
set_option genInjectivity false
namespace Mine
open PySem PySem.W PySem.Calls PyProof.Rows PySem.Spec
section
variable {q:Expr} {P:Expr→Prop}
theorem b2 {a b:Bool} {G:Prop} (h:(a&&b)=true) (k:a=true→b=true→G):G:=k (Bool.and_eq_true_iff.mp h).1 (Bool.and_eq_true_iff.mp h).2
theorem b3 {a b c:Bool} {G:Prop} (h:(a&&b&&c)=true) (k:a=true→b=true→c=true→G):G:=b2 h fun h hc=>b2 h fun ha hb=>k ha hb hc
theorem b4 {a b c d:Bool} {G:Prop} (h:(a&&b&&c&&d)=true) (k:a=true→b=true→c=true→d=true→G):G:=b2 h fun h hd=>b3 h fun ha hb hc=>k ha hb hc hd
theorem b5 {a b c d e:Bool} {G:Prop} (h:(a&&b&&c&&d&&e)=true) (k:a=true→b=true→c=true→d=true→e=true→G):G:=b2 h fun h he=>b4 h fun ha hb hc hd=>k ha hb hc hd he
@[elab_as_elim] theorem one'_on {α:Type} {l:List α} {k:α→Bool} {P:List α→Prop} (h:one' l k=true) (c:∀ a,k a=true→P [a]):P l:=by
 cases l with
 | nil=>cases h
 | cons a r =>
  cases r with
  | nil=>exact c a h
  | cons _ _=>cases h
@[elab_as_elim] theorem cons'_on {α:Type} {l:List α} {k:α→List α→Bool} {P:List α→Prop} (h:cons' l k=true) (c:∀ a r,k a r=true→P (a::r)):P l:=by
 cases l with
 | nil=>cases h
 | cons a r=>exact c a r h
@[elab_as_elim] theorem none'_on {α:Type} {l:List α} {P:List α→Prop} (h:none' l=true) (c:P []):P l:=none'_eq h▸c
@[elab_as_elim] theorem beq_on {α:Type} [BEq α] [LawfulBEq α] {a b:α} {P:α→Prop} (h:(a==b)=true) (c:P b):P a:=eq_of_beq h▸c
@[elab_as_elim] theorem int_on {k:Int→Bool} (h:isInt q k=true) (c:∀ x kk p,k x=true→P (.Constant (.int x) kk p)):P q:=cE.const h fun x kk p h=>by
 cases x<;>first|exact c _ _ _ h|exact (Bool.false_ne_true h).elim
@[elab_as_elim] theorem some'_on {α:Type} {l:Option α} {k:α→Bool} {P:Option α→Prop} (h:some' l k=true) (c:∀ a,k a=true→P (some a)):P l:=by
 cases l with
 | none=>cases h
 | some a=>exact c a h
@[elab_as_elim] theorem nil'_on {α:Type} {l:Option α} {P:Option α→Prop} (h:nil' l=true) (c:P none):P l:=by
 cases l with
 | none=>exact c
 | some a=>cases h
@[elab_as_elim] theorem call'_on {k:Str→List Expr→Bool} (h:call' q k=true) (c:∀ x np es p,k x es=true→P (.Call (.Name x np) es [] p)):P q:=cE.call h fun f es ks p h=>b2 h fun h1 h2=>none'_on h1 (cE.name h2 fun x np h=>c x np es p h)
@[elab_as_elim] theorem meth'_on {k:Expr→Str→List Expr→Bool} (h:meth' q k=true) (c:∀ v x ap es p,plainBase v=true→(ap.endLine==p.line)=true→k v x es=true→P (.Call (.Attribute v x ap) es [] p)):P q :=
 cE.call h fun f es ks p h=>b2 h fun h1 h2=>none'_on h1 (cE.attr h2 fun v x ap h=>b3 h fun a b h=>c v x ap es p a b h)
@[elab_as_elim] theorem lit_on {p:E} {k:V→Bool} {P:E→Prop} (h:litIs p k=true) (c:∀ v,k v=true→P (.lit v)):P p:=by
 cases p<;>first|exact c _ h|exact (Bool.false_ne_true h).elim
theorem lit_none {p:E} (h:litIs p isNoneV=true):p=.lit .none:=lit_on h fun v h=>by
 cases v<;>first|rfl|exact (Bool.false_ne_true h).elim
theorem lit_true {p:E} (h:litIs p isTrueV=true):p=.lit (.bool true):=lit_on h fun v h=>by
 cases v<;>first|exact (Bool.false_ne_true h).elim|exact congrArg (fun b=>E.lit (.bool b)) h
end
section
variable {W:Setup} {n:Nat}
inductive AsgSnd (F:Frame W n) (p:E) (l:Expr):Prop
 | plain:(∀ t k env,swapsWith l t k env=pure false)→isLC l=false→AsgSnd F p l
 | comp {e gens isc lp}:l=.ListComp e gens isc lp→(∀ {j nm ppos spos},bindsAs F.names F.sc j nm=true→(∀ env:Env,env.scope.kind=.function→env.kindOf nm=some .local→swapsWith l (some (.Name nm ppos)) spos.line env=pure true)→SSnd F (.assign (.loc j) p) (.Assign [.Name nm ppos] l spos))→AsgSnd F p l
structure Full (F:Frame W n) (p:E) (l:Expr):Prop extends Both F p l where
 a:AsgSnd F p l
theorem full {F:Frame W n} {p:E} {l:Expr} (b:Both F p l) (a:AsgSnd F p l):Full F p l:=⟨b,a⟩
theorem fullv {F:Frame W n} {p:E} {l:Expr} (hp:ESnd F p l) (he:∀ env whole,isTrue l env whole=(do let v ←whole;standAt l.pos;holding [v] (truthy v))) (a:AsgSnd F p l):Full F p l:=⟨bothv hp he,a⟩
noncomputable def MSnd (W:Setup) (n:Nat) (p:E):Prop:=∀ {F:Frame W n} {l:Expr},matchE p F.names F.sc l=true→Full F p l
noncomputable def MsSnd (W:Setup) (n:Nat) (ps:List E):Prop:=∀ {F:Frame W n} {l:List Expr},matchEs ps F.names F.sc l=true→EachB F ps l∧EachSnd F ps l
variable {a b c:E} {ps:List E}
theorem m_nil:MsSnd W n []:=fun h=>⟨none'_eq h,none'_eq h⟩
theorem m_cons (ha:MSnd W n a) (hs:MsSnd W n ps):MsSnd W n (a::ps):=fun h=>cons'_on h fun e es h=>b3 h fun h1 h2 h3 =>
 ⟨⟨e,es,rfl,(ha h2).toBoth,(hs h3).1⟩,⟨e,es,rfl,⟨h1,(ha h2).v⟩,(hs h3).2⟩⟩
theorem m_lit {v:V}:MSnd W n (.lit v):=fun h=>cE.const h fun x kk p h=>fullv (snd_lit (eq_of_beq h)) (fun _ _=>rfl) (.plain (fun _ _ _=>rfl) rfl)
theorem m_glob {i:Nat}:MSnd W n (.glob i):=fun h=>cE.name h fun x p h=>b2 h fun h1 h2=>fullv (snd_glob (eq_of_beq h1) h2) (fun _ _=>rfl) (.plain (fun _ _ _=>rfl) rfl)
theorem m_loc {i:Nat}:MSnd W n (.loc i):=fun h=>cE.name h fun x p h=>fullv (snd_loc h) (fun _ _=>rfl) (.plain (fun _ _ _=>rfl) rfl)
theorem m_bin {op:Bop} (ha:MSnd W n a) (hb:MSnd W n b):MSnd W n (.bin op a b):=fun h=>cE.bin h fun l o r p h=>b3 h fun h1 h2 h3=>beq_on h1 (fullv (snd_bin (ha h2).v (hb h3).v) (fun _ _=>rfl) (.plain (fun _ _ _=>rfl) rfl))
theorem m_neg (ha:MSnd W n a):MSnd W n (.neg a):=fun h=>cE.un h fun o x p h=>b2 h fun h1 h2=>beq_on h1 (fullv (snd_neg (ha h2).v) (fun _ _=>rfl) (.plain (fun _ _ _=>rfl) rfl))
theorem m_not (ha:MSnd W n a):MSnd W n (.not a):=fun h=>cE.un h fun o x p h=>b2 h fun h1 h2=>beq_on h1 (full (both_not (ha h2).toBoth) (.plain (fun _ _ _=>rfl) rfl))
theorem m_bo {b:Bool} (hs:MsSnd W n ps):MSnd W n (.bo b ps):=fun h=>cE.bool h fun o l p h=>b3 h fun h1 h2 _=>beq_on h1 (full (both_bo (hs h2).1) (.plain (fun _ _ _=>rfl) rfl))
theorem m_cmp {op:Cop} (ha:MSnd W n a) (hb:MSnd W n b):MSnd W n (.cmp op a b):=fun h=>cE.cmp h fun l os rs p h=>one'_on h fun o h=>one'_on h fun r h=>b5 h fun h1 h2 h3 h4 h5=>beq_on h1 (full (both_cmp (fun hi=>lit_none (by rw [hi] at h2;exact h2)) h3 (ha h4).v (hb h5).v) (.plain (fun _ _ _=>rfl) rfl))
theorem m_tup (hs:MsSnd W n ps):MSnd W n (.tup ps):=fun h=>cE.tup h fun l k p h=>b2 h fun h1 h2=>fullv (snd_tup (of_decide_eq_true h2) (hs h1).2.ess) (fun _ _=>rfl) (.plain (fun _ _ _=>rfl) rfl)
theorem m_list (hs:MsSnd W n ps):MSnd W n (.list ps):=fun h=>cE.list h fun l p h=>b2 h fun h1 h2=>fullv (snd_list (of_decide_eq_true h2) (hs h1).2.ess) (fun _ _=>rfl) (.plain (fun _ _ _=>rfl) rfl)
theorem m_dict {d:DK}:MSnd W n (.dict d):=fun h=>cE.dict h fun k v p h=>b2 h fun h1 h2=>none'_on h1 (none'_on h2 (fullv snd_dict (fun _ _=>rfl) (.plain (fun _ _ _=>rfl) rfl)))
theorem m_wd (hs:MsSnd W n ps):MSnd W n (.wd ps):=fun h=>cE.dict h fun k v p h=>b3 h fun h1 h2 h3=>fullv (snd_wd (of_decide_eq_true h2) h3 (hs h1).2) (fun _ _=>rfl) (.plain (fun _ _ _=>rfl) rfl)
theorem m_idx (ha:MSnd W n a) (hb:MSnd W n b):MSnd W n (.idx a b):=fun h=>cE.sub h fun v i p h=>b3 h fun h1 h2 h3=>fullv (snd_idx (by rw [Bool.not_eq_true'] at h1;exact h1) (ha h2).v (hb h3).v) (fun _ _=>rfl) (.plain (fun _ _ _=>rfl) rfl)
theorem m_wk {k:Nat} (ha:MSnd W n a):MSnd W n (.wk a k):=fun h=>cE.sub h fun v i p h=>str_on h fun x kk cp h=>b2 h fun h1 h2=>fullv (snd_wk (eq_of_beq h1) (ha h2).v) (fun _ _=>rfl) (.plain (fun _ _ _=>rfl) rfl)
theorem m_cut {k:Nat} (ha:MSnd W n a):MSnd W n (.cut a k):=fun h=>cE.sub h fun v i p h=>cE.slice h fun lo up s sp h=>b3 h fun h1 h2 h3=>nil'_on h1 (nil'_on h2 (some'_on h3 fun u h=>int_on h fun m kk cp h=>b3 h fun h1 h2 h3=>by
 cases of_decide_eq_true h1
 revert h3
 exact cE.name h2 fun x np _ h3=>fullv (snd_cut (ha h3).v) (fun _ _=>rfl) (.plain (fun _ _ _=>rfl) rfl)))
theorem m_attr {c i:Nat} (ha:MSnd W n a):MSnd W n (.attr a c i):=fun h=>cE.attr h fun v x p h=>b3 h fun h1 h2 h3=>fullv (snd_attr (eq_of_beq h3) h1 (ha h2).v) (fun _ _=>rfl) (.plain (fun _ _ _=>rfl) rfl)
theorem m_call (hC:CSnd W n) {f:Nat} (hs:MsSnd W n ps):MSnd W n (.call f ps):=fun h=>call'_on h fun x np es p h=>b3 h fun h1 h2 h3=>fullv (snd_call hC (List.contains_iff_mem.mp h1) h2 (hs h3).2) (fun _ _=>rfl) (.plain (fun _ _ _=>rfl) rfl)
theorem m_new (hC:CSnd W n) {c f:Nat} (hs:MsSnd W n ps):MSnd W n (.new c f ps):=fun h=>call'_on h fun x np es p h=>b4 h fun h1 h2 h3 h4=>fullv (snd_new hC (eq_of_beq h1) (List.contains_iff_mem.mp h3) h2 (hs h4).2) (fun _ _=>rfl) (.plain (fun _ _ _=>rfl) rfl)
theorem m_new0 {c:Nat}:MSnd W n (.new0 c):=fun h=>call'_on h fun x np es p h=>b4 h fun h1 h2 h3 h4=>none'_on h1 (fullv (snd_new0 (eq_of_beq h2) (List.contains_iff_mem.mp h4) h3) (fun _ _=>rfl) (.plain (fun _ _ _=>rfl) rfl))
theorem m_meth (hC:CSnd W n) {c f:Nat} (ha:MSnd W n a) (hs:MsSnd W n ps):MSnd W n (.meth a c f ps):=fun h=>meth'_on h fun v x ap es p hb hl h=>b4 h fun h1 h2 h3 h4=>fullv (snd_meth hC (List.contains_iff_mem.mp h2) hb hl (of_decide_eq_true h4) (ha h1).v (hs h3).2) (fun _ _=>rfl) (.plain (fun _ _ _=>rfl) rfl)
theorem m_append (ha:MSnd W n a) (hb:MSnd W n b):MSnd W n (.append a b):=fun h=>meth'_on h fun v x ap es p hp hl h=>b2 h fun h1 h=>beq_on h1 (one'_on h fun e h=>b3 h fun h2 h3 h4=>fullv (snd_append hp hl h2 (ha h3).v (hb h4).v) (fun _ _=>rfl) (.plain (fun _ _ _=>rfl) rfl))
theorem m_pop (ha:MSnd W n a):MSnd W n (.pop a):=fun h=>meth'_on h fun v x ap es p hp hl h=>b3 h fun h1 h2 h3=>beq_on h1 (none'_on h2 (fullv (snd_pop hp hl (ha h3).v) (fun _ _=>rfl) (.plain (fun _ _ _=>rfl) rfl)))
theorem m_popAt (ha:MSnd W n a) (hb:MSnd W n b):MSnd W n (.popAt a b):=fun h=>meth'_on h fun v x ap es p hp hl h=>b2 h fun h1 h=>beq_on h1 (one'_on h fun e h=>b3 h fun h2 h3 h4=>fullv (snd_popAt hp hl h2 (ha h3).v (hb h4).v) (fun _ _=>rfl) (.plain (fun _ _ _=>rfl) rfl))
theorem m_get1 (ha:MSnd W n a) (hb:MSnd W n b):MSnd W n (.get1 a b):=fun h=>meth'_on h fun v x ap es p hp hl h=>b2 h fun h1 h=>beq_on h1 (one'_on h fun e h=>b3 h fun h2 h3 h4=>fullv (snd_get1 hp hl h2 (ha h3).v (hb h4).v) (fun _ _=>rfl) (.plain (fun _ _ _=>rfl) rfl))
theorem m_get2 (ha:MSnd W n a) (hb:MSnd W n b) (hc:MSnd W n c):MSnd W n (.get2 a b c):=fun h=>meth'_on h fun v x ap es p hp hl h=>b2 h fun h1 h=>beq_on h1 (cons'_on h fun e r h=>one'_on h fun e2 h=>b5 h fun h2 h3 h4 h5 h6=>fullv (snd_get2 hp hl h2 h3 (ha h4).v (hb h5).v (hc h6).v) (fun _ _=>rfl) (.plain (fun _ _ _=>rfl) rfl))
theorem m_bf {f:BF} (ha:MSnd W n a):MSnd W n (.bf f a):=fun h=>call'_on h fun x np es p h=>b3 h fun h1 h2 h3=>by
 revert h2
 exact beq_on h1 fun h2=>one'_on h3 fun e h=>b2 h fun h4 h5=>fullv (snd_bf h2 h4 (ha h5).v) (fun _ _=>rfl) (.plain (fun _ _ _=>rfl) rfl)
theorem m_inTid (ha:MSnd W n a):MSnd W n (.inTid a):=fun h=>cE.cmp h fun l os rs p h=>one'_on h fun o h=>one'_on h fun r h=>b3 h fun h1 h2 h3=>beq_on h1 (cE.name h2 fun x np h=>b2 h fun h1 h2=>by
 revert h2
 exact beq_on h1 fun h2=>full (both_inTid h2 (ha h3).v) (.plain (fun _ _ _=>rfl) rfl))
end
end Mine
set_option genInjectivity false
namespace Mine
open PySem PySem.W PySem.Calls PyProof.Rows PySem.Spec
section
variable {W:Setup} {n:Nat} {a b c:E} {ps:List E}
@[elab_as_elim] theorem gen'_on {g:Comprehension} {k:Str→Expr→List Expr→Bool} {P:Comprehension→Prop} (h:gen' g k=true) (c:∀ t p i fs,notSet i=true→k t i fs=true→P ⟨.Name t p,i,fs,0⟩):P g:=by
 obtain⟨tg,it,fs,as⟩:=g
 exact cE.name (P:=fun tg=>P ⟨tg,it,fs,as⟩) h fun t p h=>b3 h fun h1 h2 h3=>by
  cases of_decide_eq_true h1
  exact c t p it fs h2 h3
theorem m_comp {cap:List Nat} (ha:MSnd W n a) (hb:MSnd W n b) (hc:MSnd W n c):MSnd W n (.comp a cap b c):=fun {F l} h=>cE.comp h fun e gs isc lp h=>one'_on h fun g h=>gen'_on h fun t p i fs hns h=>by
 obtain⟨caps,hcap,h⟩:=some'_eq h
 exact b4 h fun h1 h2 h3 h4=>by
  have P:CompP F a cap b c e t i fs isc caps:=⟨hcap,.of h1,hns,(hb h2).v,fun F' hn hs=>(ha (F:=F') (by rw [hn,hs];exact h3)).v,fun F' hn hs=>by
   rcases Bool.or_eq_true_iff.mp h4 with h|h
   ·exact b2 h fun h5 h6=>.inl ⟨lit_true h6,none'_eq h5⟩
   ·exact one'_on (P:=fun fs=>CondSnd F' c fs) h fun g h=>.inr ⟨g,rfl,(hc (F:=F') (by rw [hn,hs];exact h)).t⟩⟩
  exact fullv (snd_comp P) (fun _ _=>rfl) (a:=.comp rfl fun hb hs=>ssnd_comp hb hs P)
theorem m_comp2 (ha:MSnd W n a) (hb:MSnd W n b) (hc:MSnd W n c):MSnd W n (.comp2 a b c):=fun {F l} h=>cE.comp h fun e gs isc lp h=>cons'_on h fun g r h=>one'_on h fun g2 h=>gen'_on h fun t p i fs hns h=>gen'_on h fun t2 p2 i2 fs2 hns2 h=>b2 h fun h h6=>b5 h fun h1 h2 h3 h4 h5 =>
 none'_on h1 (none'_on h2 (by
  have P:CompP2 F a b c e i i2 t t2 isc:=⟨.of h3,hns,hns2,(hb h4).v,fun F' hn hs=>(ha (F:=F') (by rw [hn,hs];exact h6)).v,fun F' hn hs=>(hc (F:=F') (by rw [hn,hs];exact h5)).v⟩
  exact fullv (snd_comp2 P) (fun _ _=>rfl) (a:=.comp rfl fun hb hs=>ssnd_comp2 hb hs P)))
theorem mE (hC:CSnd W n) (p:E):MSnd W n p :=
 E.rec (motive_1:=fun p=>MSnd W n p) (motive_2:=fun ps=>MsSnd W n ps) (fun _=>m_lit) (fun _=>m_glob) (fun _=>m_loc) (fun _ _ _=>m_bin) (fun _=>m_neg) (fun _=>m_not) (fun _ _=>m_bo) (fun _ _ _=>m_cmp) (fun _=>m_tup) (fun _=>m_list) (fun _=>m_dict) (fun _=>m_wd) (fun _ _=>m_idx) (fun _ _=>m_wk) (fun _ _=>m_cut) (fun _ _ _=>m_attr)
  (fun _ _=>m_call hC) (fun _ _ _=>m_new hC) (fun _=>m_new0) (fun _ _ _ _=>m_meth hC) (fun _ _=>m_append) (fun _=>m_pop) (fun _ _=>m_popAt) (fun _ _=>m_get1) (fun _ _ _=>m_get2) (fun _ _=>m_bf) (fun _ _ _ _=>m_comp) (fun _ _ _=>m_comp2) (fun _=>m_inTid) m_nil (fun _ _=>m_cons) p
variable {F:Frame W n}
theorem m_target (hC:CSnd W n) {t:Mine.T} {te:Expr} (h:matchT F.names F.sc te t=true):TSnd F t te∧notStar te=true:=by
 cases t with
 | loc i=>exact cE.name h fun x p h=>⟨tsnd_loc h,rfl⟩
 | locs l=>exact cE.tup h fun es k p h=>⟨tsnd_locs h,rfl⟩
 | attr a c i=>exact cE.attr h fun v x p h=>b2 h fun h1 h2=>⟨tsnd_attr (eq_of_beq h2) (mE hC a h1).v,rfl⟩
 | idx a b=>exact cE.sub h fun v i p h=>b3 h fun h1 h2 h3=>⟨tsnd_idx (mE hC a h2).v (mE hC b h3).v,rfl⟩
 | wk a k=>exact cE.sub h fun v i p h=>str_on h fun x kk cp h=>b2 h fun h1 h2=>⟨tsnd_wk (eq_of_beq h2) (mE hC a h1).v,rfl⟩
theorem lc_tup {l:Expr} (h:isLC l=true):cE l (tu:=fun _=>true)=false:=cE.comp h fun _ _ _ _ _=>rfl
theorem stores_none {t:Mine.T} {te l:Expr} (hm:matchT F.names F.sc te t=true) (h:assignOk t te l=true):∀ env,swappedStores [te] l env=pure none:=fun env=>by
 cases t with
 | loc i=>exact cE.name hm fun x p _=>rfl
 | locs is =>
  revert h
  refine cE.tup hm fun es k p _ h=>?_
  have h:(!cE l (tu:=fun _=>true))=true:=h
  cases l<;>first|rfl|exact (Bool.false_ne_true h).elim
 | attr a c i=>exact cE.attr hm fun v x p _=>rfl
 | idx a b=>exact cE.sub hm fun v i p _=>rfl
 | wk a k=>exact cE.sub hm fun v i p _=>rfl
theorem m_assign (hC:CSnd W n) {t:Mine.T} {te l:Expr} {p:E} {pos:Pos} (h1:matchT F.names F.sc te t=true) (h2:matchE p F.names F.sc l=true) (h3:assignOk t te l=true):SSnd F (.assign t p) (.Assign [te] l pos):=by
 have m:=mE hC p h2
 have mt:=m_target hC h1
 have st:=stores_none h1 h3
 have other:(∀ env,swapsWithSole [te] l pos.line env=pure false)→SSnd F (.assign t p) (.Assign [te] l pos):=fun hs=>ssnd_assign mt.2 hs st mt.1 m.v
 intro ρ T w Q R
 cases m.a with
 | plain hs _=>exact other fun env=>hs _ _ _
 | @comp e gens isc lp he hs =>
  subst he
  cases t with
  | loc i =>
   clear mt st other
   revert h3
   refine cE.name h1 fun x tp hb h3=>hs hb fun env hf hk=>?_
   have h3:(tp.line==lp.line&&!(isc.names.any fun q=>q.1==x&&(q.2==.local||q.2==.cell)))=true:=h3
   exact b2 h3 fun h4 h5=>(by
    show (pure (env.blockKind==.function&&env.kindOf x==some .local&&tp.line==lp.line&&!(isc.names.any fun q=>q.1==x&&(q.2==.local||q.2==.cell))):Sem Bool)=pure true
    have hb:env.blockKind=.function:=by unfold Env.blockKind;rw [hf];rfl
    rw [hb,hk,h4,h5];rfl)
  | locs is=>exact other (cE.tup h1 fun _ _ _ _=>fun _=>rfl)
  | attr a c i=>exact other (cE.attr h1 fun _ _ _ _=>fun _=>rfl)
  | idx a b=>exact other (cE.sub h1 fun _ _ _ _=>fun _=>rfl)
  | wk a k=>exact other (cE.sub h1 fun _ _ _ _=>fun _=>rfl)
theorem m_bind {t:List Nat} {te:Expr} (h:forTarget F.names F.sc t te=true):BindSnd F t te :=
 cE.on (P:=fun te=>BindSnd F t te) h (fun x p h=>one'_on (P:=fun t=>BindSnd F t (.Name x p)) h fun i h=>bind_name h) no3 no4 no3 no3 no4 (fun l k p h=>b2 h fun h1 h2=>bind_tup (of_decide_eq_true h1) h2) no2 no3 no3 no3 no4 no4 no4 no2 no3
section
variable {q:Stmt} {P:Stmt→Prop}
@[elab_as_elim] theorem cS.on {as:List Expr→Expr→Bool} {au:Expr→Operator→Expr→Bool} {ex:Expr→Bool} {re:Option Expr→Bool} {pa:Bool} {if_ wh:Expr→List Stmt→List Stmt→Bool} {fo:Expr→Expr→List Stmt→List Stmt→Bool} (h:cS q as au ex re pa if_ wh fo=true)
  (h1:∀ t v p,as t v=true→P (.Assign t v p)) (h2:∀ t o v p,au t o v=true→P (.AugAssign t o v p)) (h3:∀ v p,ex v=true→P (.Expr v p)) (h4:∀ v p,re v=true→P (.Return v p)) (h5:∀ p,pa=true→P (.Pass p))
  (h6:∀ t x y p,if_ t x y=true→P (.If t x y p)) (h7:∀ t x y p,wh t x y=true→P (.While t x y p)) (h8:∀ t i x y p,fo t i x y=true→P (.For t i x y p)):P q:=by
 cases q<;>first|exact h1 _ _ _ h|exact h2 _ _ _ _ h|exact h3 _ _ h|exact h4 _ _ h|exact h5 _ h|exact h6 _ _ _ _ h|exact h7 _ _ _ _ h|exact h8 _ _ _ _ _ h|exact (Bool.false_ne_true h).elim
theorem no1 {α:Sort _} {G:α→Prop}:∀ a,false=true→G a:=fun _ h=>(Bool.false_ne_true h).elim
theorem no5 {α β γ δ ε:Sort _} {G:α→β→γ→δ→ε→Prop}:∀ a b c d e,false=true→G a b c d e:=fun _ _ _ _ _ h=>(Bool.false_ne_true h).elim
end
noncomputable def MS (W:Setup) (n:Nat) (a:S):Prop:=∀ {F:Frame W n} {l:Stmt},matchS F.names F.sc a l=true→SSnd F a l
noncomputable def MSs (W:Setup) (n:Nat) (a:List S):Prop:=∀ {F:Frame W n} {l:List Stmt},matchSs F.names F.sc a l=true→SsSnd F a l
variable (hC:CSnd W n) {a:E} {x y:List S}
include hC
theorem s_assign {t:Mine.T}:MS W n (.assign t a):=fun {F l} h=>cS.on (P:=fun l=>SSnd F (.assign t a) l) h (fun ts v p h=>one'_on (P:=fun ts=>SSnd F (.assign t a) (.Assign ts v p)) h fun te h=>b3 h fun h1 h2 h3=>m_assign hC h1 h2 h3) no4 no2 no2 no1 no4 no4 no5
theorem s_augl {i:Nat} {op:Bop}:MS W n (.augl i op a):=fun {F l} h=>cS.on (P:=fun l=>SSnd F (.augl i op a) l) h no3 (fun t o v p h=>cE.name (P:=fun t=>SSnd F (.augl i op a) (.AugAssign t o v p)) h fun x np h=>b4 h fun h1 h2 h3 h4=>eq_of_beq h1▸ssnd_augl h2 h3 (mE hC a h4).v) no2 no2 no1 no4 no4 no5
theorem s_auga {c:E} {k i:Nat} {op:Bop}:MS W n (.auga c k i op a):=fun {F l} h=>cS.on (P:=fun l=>SSnd F (.auga c k i op a) l) h no3 (fun t o v p h=>cE.attr (P:=fun t=>SSnd F (.auga c k i op a) (.AugAssign t o v p)) h fun b x np h=>b4 h fun h1 h2 h3 h4=>eq_of_beq h1▸ssnd_auga (eq_of_beq h3) (mE hC c h2).v (mE hC a h4).v) no2 no2 no1 no4 no4 no5
theorem s_expr:MS W n (.expr a):=fun {F l} h=>cS.on (P:=fun l=>SSnd F (.expr a) l) h no3 no4 (fun v p h=>b2 h fun h1 h2=>by
 have m:=mE hC a h1
 cases m.a with
 | plain hs _=>exact ssnd_expr (fun env=>hs _ _ _) m.v
 | comp he hs=>subst he;cases h2) no2 no1 no4 no4 no5
theorem s_ret:MS W n (.ret a):=fun {F l} h=>cS.on (P:=fun l=>SSnd F (.ret a) l) h no3 no4 no2 (fun v p h=>(Bool.or_eq_true_iff.mp h).elim (fun h=>some'_on (P:=fun v=>SSnd F (.ret a) (.Return v p)) h fun v h=>ssnd_ret (mE hC a h).v) fun h=>b2 h fun h1 h2=>nil'_on (P:=fun v=>SSnd F (.ret a) (.Return v p)) h1 (lit_none h2▸ssnd_ret0)) no1 no4 no4 no5
omit hC in
theorem s_pass:MS W n .pass:=fun {F l} h=>cS.on (P:=fun l=>SSnd F .pass l) h no3 no4 no2 no2 (fun p _=>ssnd_pass) no4 no4 no5
theorem s_ite (hx:MSs W n x) (hy:MSs W n y):MS W n (.ite a x y):=fun {F l} h=>cS.on (P:=fun l=>SSnd F (.ite a x y) l) h no3 no4 no2 no2 no1 (fun t _ _ p h=>b3 h fun h1 h2 h3=>ssnd_if (mE hC a h1).t (hx h2) (hy h3)) no4 no5
theorem s_while (hx:MSs W n x):MS W n (.while a x):=fun {F l} h=>cS.on (P:=fun l=>SSnd F (.while a x) l) h no3 no4 no2 no2 no1 no4 (fun t u v p h=>b3 h fun h1 h2 h3=>none'_on (P:=fun v=>SSnd F (.while a x) (.While t u v p)) h1 (ssnd_while (mE hC a h2).t (hx h3))) no5
theorem s_forI {t:List Nat} (hx:MSs W n x):MS W n (.forI t a x):=fun {F l} h=>cS.on (P:=fun l=>SSnd F (.forI t a x) l) h no3 no4 no2 no2 no1 no4 no4 fun t' i u v p h=>b5 h fun h1 h2 h3 h4 h5=>none'_on (P:=fun v=>SSnd F (.forI t a x) (.For t' i u v p)) h1 (ssnd_for (m_bind h2) h4 (mE hC a h3).v (hx h5))
theorem s_forR {t:Nat} (hx:MSs W n x):MS W n (.forR t a x):=fun {F l} h=>cS.on (P:=fun l=>SSnd F (.forR t a x) l) h no3 no4 no2 no2 no1 no4 no4 fun t' i u v p h=>b4 h fun h1 h2 h3 h4=>none'_on (P:=fun v=>SSnd F (.forR t a x) (.For t' i u v p)) h1 (call'_on (P:=fun i=>SSnd F (.forR t a x) (.For t' i u [] p)) h4 fun r np es p' h'=>b3 h' fun h1 h4 h7=>by
 have h1:=eq_of_beq h1
 subst h1
 exact one'_on (P:=fun es=>SSnd F (.forR t a x) (.For t' (.Call (.Name _ np) es [] p') u [] p)) h7 fun e h=>b2 h fun h5 h6=>ssnd_range (m_bind h2) h4 h5 (mE hC a h6).v (hx h3))
theorem mSs (l:List S):MSs W n l :=
 S.rec_1 (motive_1:=fun a=>MS W n a) (motive_2:=fun l=>MSs W n l) (fun _ _=>s_assign hC) (fun _ _ _=>s_augl hC) (fun _ _ _ _ _=>s_auga hC) (fun _=>s_expr hC) (fun _=>s_ret hC) s_pass (fun _ _ _=>s_ite hC) (fun _ _=>s_while hC) (fun _ _ _=>s_forI hC) (fun _ _ _=>s_forR hC) (fun _=>fun {ρ T w Q R} q _ _=>False.elim q)
  (fun h=>none'_on (P:=fun l=>SsSnd _ [] l) h sssnd_nil) (fun _ _ h1 h2 _ _ h=>cons'_on (P:=fun l=>SsSnd _ _ l) h fun _ _ h=>b2 h fun h3 h4=>sssnd_cons (h1 h3) (h2 h4)) l
end
noncomputable def FnsOk (W:Setup):Prop:=∀ (f:Nat) (md:Fn),fns[f]?=some md→∃ o fd body names,W.g.get? (W.fn f)=some o∧o.data=.func fd∧FnOk W.g fd body names md
theorem call_all {W:Setup} (H:FnsOk W) (n:Nat):CSnd W n:=by
 induction n with
 | zero=>exact fun q _ _ _ _=>q.elim
 | succ n ih =>
  intro f vs T Q A w xs P q hA S hv k
  unfold CN at q
  cases e:fns[f]? with
  | none=>rw [e] at q;exact q.elim
  | some md =>
   rw [e] at q
   obtain⟨o,fd,body,names,ho,hd,hF⟩:=H f md e
   exact call_core hF (fun F' h1 h2=>mSs ih _ (by rw [h1,h2];exact hF.bodyOk)) ho hd hA S hv q.1 q.2 k
end Mine
set_option genInjectivity false
namespace Mine
open PySem PySem.W PySem.Calls PyProof.Rows PySem.Spec
noncomputable def clsA:List Addr:=[45,66,176,485,408,604,626,661,682,710,906,981,1002]
noncomputable def fnA:List Addr:=[28,42,63,77,84,91,98,105,112,159,173,187,194,201,208,215,222,236,243,293,300,307,314,321,328,335,342,349,356,363,377,384,391,405,419,433,440,447,454,461,475,482,496,503,510,517,524,531,538,545,552,559,566,573,580,587,601,623,679,854,875,896,903,943,950,957,964,978,999,1016,1023,1030,1035,1042,1049,1054,1061,1068,1075,1082,1089,1096,1101,1106,1111,1118,1125,1132]
noncomputable def clsOf (c:Nat):Addr:=clsA.getD c 0
noncomputable def fnOf' (f:Nat):Addr:=fnA.getD f 0
section
variable {α:Type}
theorem some'_ex {l:Option α} {k:α→Bool} (h:some' l k=true):∃ a,l=some a∧k a=true:=some'_on (P:=fun l=>∃ a,l=some a∧k a=true) h fun a h=>⟨a,rfl,h⟩
theorem some'_at {l:Option α} {a:α} {k:α→Bool} (e:l=some a) (h:some' l k=true):k a=true:=by subst e;exact h
theorem nil'_eq {l:Option α} (h:nil' l=true):l=none:=nil'_on (P:=fun l=>l=none) h rfl
end
noncomputable def isV0 (v:Value):Bool:=match v with|.none=>true|_=>false
noncomputable def cV (v:Value) (ki:Int→Bool:=fun _=>false) (ks:Str→Bool:=fun _=>false) (kr:Addr→Bool:=fun _=>false):Bool:=match v with
 | .int i _=>ki i
 | .str s _=>ks s
 | .ref a=>kr a
 | _=>false
noncomputable def cD (d:Data) (kf:FuncData→Bool:=fun _=>false) (ks:List Value→Bool:=fun _=>false) (kd:List DictEntry→Bool:=fun _=>false):Bool:=match d with
 | .func fd=>kf fd
 | .seq vs _=>ks vs.toList
 | .dict es _=>kd es.toList
 | _=>false
noncomputable def cBody (b:FuncBody) (k:List Stmt→Bool):Bool:=match b with|.stmts l=>k l|_=>false
noncomputable def isTy (v:Value) (x:String):Bool:=match v with|.type y=>y==x|_=>false
section
variable {P:Prop}
theorem isV0_eq {v:Value} (h:isV0 v=true):v=.none:=by
 cases v<;>first|rfl|exact (Bool.false_ne_true h).elim
theorem isTy_eq {v:Value} {x:String} (h:isTy v x=true):v=.type x:=by
 cases v<;>first|exact (Bool.false_ne_true h).elim|exact congrArg Value.type (eq_of_beq h)
theorem cBody_ex {b:FuncBody} {k:List Stmt→Bool} (h:cBody b k=true):∃ l,b=.stmts l∧k l=true:=by
 cases b<;>first|exact⟨_,rfl,h⟩|exact (Bool.false_ne_true h).elim
theorem cD_fn {d:Data} {k:FuncData→Bool} (h:cD d (kf:=k)=true):∃ fd,d=.func fd∧k fd=true:=by
 cases d<;>first|exact⟨_,rfl,h⟩|exact (Bool.false_ne_true h).elim
theorem cD_seq {d:Data} {k:List Value→Bool} (h:cD d (ks:=k)=true):∃ vs n,d=.seq vs n∧k vs.toList=true:=by
 cases d<;>first|exact⟨_,_,rfl,h⟩|exact (Bool.false_ne_true h).elim
theorem cD_dict {d:Data} {k:List DictEntry→Bool} (h:cD d (kd:=k)=true):∃ es ep,d=.dict es ep∧k es.toList=true:=by
 cases d<;>first|exact⟨_,_,rfl,h⟩|exact (Bool.false_ne_true h).elim
theorem cV_int {v:Value} {k:Int→Bool} (h:cV v (ki:=k)=true):∃ i t,v=.int i t∧k i=true:=by
 cases v<;>first|exact⟨_,_,rfl,h⟩|exact (Bool.false_ne_true h).elim
theorem cV_str {v:Value} {k:Str→Bool} (h:cV v (ks:=k)=true):∃ i t,v=.str i t∧k i=true:=by
 cases v<;>first|exact⟨_,_,rfl,h⟩|exact (Bool.false_ne_true h).elim
theorem cV_ref {v:Value} {k:Addr→Bool} (h:cV v (kr:=k)=true):∃ a,v=.ref a∧k a=true:=by
 cases v<;>first|exact⟨_,rfl,h⟩|exact (Bool.false_ne_true h).elim
end
noncomputable def parOk (sc:Scope) (x:Str):Bool:=sc.names.lookup x==some .local||(sc.names.lookup x==some .cell&&((cellsFrom 0 sc.names []).lookup x).isSome)
noncomputable def fdIn (K:Frag) (names:List Str) (md:Fn) (fd:FuncData):Bool :=
 (none' fd.params.posonlyargs&&none' fd.params.kwonlyargs&&nil' fd.params.vararg&&nil' fd.params.kwarg)&&(isV0 fd.defaults&&none' fd.closure&&fd.globals==mainGlobals&&fd.builtins==builtinsNs) &&
 (cBody fd.body (fun b=>matchSs names fd.scope md.body b)&&codeIn K fd.code fd.qualname&&!fd.scope.isCoroutine&&!fd.scope.isGenerator)&&(fd.scope.kind==.function&&decide names.Nodup&&fd.params.args.map (·.arg)==names.take md.np&&decide (md.np≤names.length))&&(names.take md.np).all (parOk fd.scope)
noncomputable def fnIn (K:Frag) (f:Nat):Bool:=some' fns[f]? fun md=>some' (K.lookup (fnOf' f)) fun o=>cD o.data (kf:=fdIn K (places.getD f []) md)
noncomputable def fnsIn (K:Frag):Bool:=(List.range fns.length).all (fnIn K)
theorem cellsFrom_some {x:Str} {l:List (Str×NameKind)}:∀ {a b:List (Str×Addr)} {k m:Nat},((a.lookup x).isSome=(b.lookup x).isSome)→((cellsFrom k l a).lookup x).isSome=((cellsFrom m l b).lookup x).isSome:=by
 induction l with
 | nil=>exact fun h=>h
 | cons p r ih =>
  intro a b k m h
  unfold cellsFrom
  split
  ·refine ih ?_
   rw [List.lookup_cons,List.lookup_cons]
   cases x==p.1
   ·exact h
   ·rfl
  ·exact ih h
theorem fd_of {K:Frag} {h:Heap} (X:K.In h) {names:List Str} {md:Fn} {fd:FuncData} (e:fdIn K names md fd=true):∃ body,FnOk h fd body names md :=
 b5 e fun a b c d e=>b4 a fun a1 a2 a3 a4=>b4 b fun b1 b2 b3 b4'=>b4 c fun c1 c2 c3 c4=>b4 d fun d1 d2 d3 d4=>by
  obtain⟨body,hb,hm⟩:=cBody_ex c1
  exact⟨body,none'_eq a1,none'_eq a2,nil'_eq a3,nil'_eq a4,isV0_eq b1,none'_eq b2,eq_of_beq b3,eq_of_beq b4',hb,codeRec_of X c2,(Bool.not_eq_true' _).mp c3,(Bool.not_eq_true' _).mp c4,eq_of_beq d1,of_decide_eq_true d2,eq_of_beq d3,of_decide_eq_true d4,
   fun x hx=>(Bool.or_eq_true_iff.mp (List.all_eq_true.mp e x hx)).imp eq_of_beq fun q=>Mine.b2 q fun q1 q2=>⟨eq_of_beq q1,fun k=>(cellsFrom_some rfl).trans q2⟩,hm⟩
theorem fn_of {K:Frag} {h:Heap} (X:K.In h) (e:fnsIn K=true) {f:Nat} {md:Fn} (hf:fns[f]?=some md):∃ o fd body names,h.get? (fnOf' f)=some o∧o.data=.func fd∧FnOk h fd body names md:=by
 have e:=List.all_eq_true.mp e f (List.mem_range.mpr (List.getElem?_eq_some_iff.mp hf).1)
 unfold fnIn at e
 have e:=some'_at hf e
 obtain⟨o,ho,e⟩:=some'_ex e
 obtain⟨fd,hd,e⟩:=cD_fn e
 obtain⟨body,F⟩:=fd_of X e
 exact⟨o,fd,body,_,X _ _ ho,hd,F⟩
noncomputable def leafIn (v:V) (x:Value):Bool:=match v with
 | .int i=>cV x (ki:=fun j=>i==j)
 | .str i=>cV x (ks:=fun j=>i==j)
 | _=>false
noncomputable def leaves:List V→List Value→Bool
 | [],xs=>none' xs
 | v::l,xs=>cons' xs fun x r=>leafIn v x&&leaves l r
noncomputable def vIn (K:Frag) (v:V) (x:Value):Bool:=match v with
 | .tup l=>cV x (kr:=fun a=>some' (K.lookup a) fun o=>isTy o.cls "tuple"&&cD o.data (ks:=leaves l))
 | _=>leafIn v x
theorem leaf_of {w:Wd} {v:V} {x:Value} (e:leafIn v x=true):VR w v x:=by
 cases v with
 | int i=>obtain⟨j,t,rfl,h⟩:=cV_int e;exact eq_of_beq h▸.int _ _
 | str i=>obtain⟨j,t,rfl,h⟩:=cV_str e;exact eq_of_beq h▸.str _ _
 | _=>exact (Bool.false_ne_true e).elim
theorem leaves_of {w:Wd} {l:List V}:∀ {xs:List Value},leaves l xs=true→VRs w l xs:=by
 induction l with
 | nil=>exact fun e=>none'_on (P:=fun xs=>VRs w [] xs) e .nil
 | cons v l ih=>exact fun e=>cons'_on (P:=fun xs=>VRs w (v::l) xs) e fun x r h=>b2 h fun h1 h2=>.cons (leaf_of h1) (ih h2)
theorem v_of {K:Frag} {w:Wd} (X:K.In w.s.heap) {v:V} {x:Value} (e:vIn K v x=true):VR w v x:=by
 cases v with
 | tup l =>
  obtain⟨a,rfl,e⟩:=cV_ref e
  obtain⟨o,ho,e⟩:=some'_ex e
  refine b2 e fun e1 e2=>?_
  obtain⟨vs,n,hd,e⟩:=cD_seq e2
  exact .tup (X _ _ ho) (isTy_eq e1) hd (leaves_of e)
 | _=>exact leaf_of e
noncomputable def gvIn (K:Frag) (i:Nat):Bool:=some' gtab[i]? fun v=>some' tab.gnames[i]? fun n=>some' (nsIn K mainGlobals n) fun r=>some' r (vIn K v)
noncomputable def entIn:List DictEntry→List Int→Bool
 | [],ks=>none' ks
 | e::es,ks=>cons' ks fun k r=>(e.key.isInt k&&e.hash==hashInt k)&&entIn es r
noncomputable def dictIn (K:Frag) (a:Addr) (ks:List Int):Bool:=some' (K.lookup a) fun o=>(isTy o.cls "dict"&&nil' o.dict&&none' o.slots.toList)&&(cD o.data (kd:=fun es=>entIn es ks)&&decide ks.Nodup)
theorem ent_of {prog:Program} {w:World} {es:List DictEntry}:∀ {ks:List Int},entIn es ks=true→(∀ e∈es,∃ k,(PySem.intKind prog w).is k e.key=true∧e.hash=(PySem.intKind prog w).hash k)∧∃ kvs,Pairs (PySem.intKind prog w) es kvs∧kvs.map (·.1)=ks:=by
 induction es with
 | nil=>exact fun h=>none'_eq h▸⟨fun _ h=>(nomatch h),[],.nil,rfl⟩
 | cons e es ih =>
  refine fun {ks} h=>cons'_on (P:=fun ks=>_∧∃ kvs,Pairs (PySem.intKind prog w) (e::es) kvs∧kvs.map (·.1)=ks) h fun k r h=>b3 h fun h1 h2 h3=>?_
  obtain⟨q,kvs,p,hm⟩:=ih h3
  exact⟨fun e' he=>(List.mem_cons.mp he).elim (fun q=>q▸⟨k,h1,eq_of_beq h2⟩) (q e'),(k,e.val)::kvs,.cons h1 rfl p,hm▸rfl⟩
theorem dict_of {prog:Program} {w:World} {K:Frag} {h:Heap} (X:K.In h) {a:Addr} {ks:List Int} (e:dictIn K a ks=true):∃ kvs,h.DictOf (PySem.intKind prog w) a kvs∧kvs.map (·.1)=ks:=by
 obtain⟨o,ho,e⟩:=some'_ex e
 refine b2 e fun e1 e2=>b3 e1 fun h1 h2 h3=>b2 e2 fun h4 h5=>?_
 obtain⟨es,ep,hd,h⟩:=cD_dict h4
 obtain⟨q,kvs,p,hm⟩:=ent_of (prog:=prog) (w:=w) h
 exact⟨kvs,⟨o,es,ep,X _ _ ho,⟨isTy_eq h1,nil'_eq h2,Array.toList_eq_nil_iff.mp (none'_eq h3)⟩,hd,fun x hx=>q x (Array.mem_toList_iff.mpr hx),p,by rw [hm];exact of_decide_eq_true h5⟩,hm⟩
noncomputable def isRef (K:Frag) (n:Str) (a:Addr):Bool:=nsIn K mainGlobals n==some (some (.ref a))&&keepIn K (.ref a)
noncomputable def cgIn (K:Frag) (c:Nat):Bool:=some' tab.cnames[c]? fun x=>isRef K x (clsOf c)
noncomputable def initIn (K:Frag) (p:Nat×Nat):Bool:=findIn K (.ref (clsOf p.1)) "__init__"==some (some (.ref (fnOf' p.2)))&&typeIn K (.ref (fnOf' p.2))==some (.type "function")
noncomputable def new0In (K:Frag) (c:Nat):Bool:=findIn K (.ref (clsOf c)) "__init__"==some (some (.builtin "object.__init__"))
noncomputable def methIn (K:Frag) (p:Nat×Str×Nat):Bool:=decide (p.1<tab.cnames.length)&&findIn K (.ref (clsOf p.1)) p.2.1==some (some (.ref (fnOf' p.2.2)))&&isFn K (.ref (fnOf' p.2.2))&&decide (p.2.1∉attrsOf p.1)&&keepIn K (.ref (fnOf' p.2.2))
noncomputable def noGlob (K:Frag) (x:Str):Bool:=nsIn K mainGlobals x==some none
noncomputable def bltIn (K:Frag) (p:Str×Value):Bool:=noGlob K p.1&&p.1 != ("__name__":Str)&&bootBuiltins p.1==some p.2
noncomputable def blts:List (Str×Value):=[(Str.ofString "len",Value.builtin "len"),(Str.ofString "sorted",.builtin "sorted"),(Str.ofString "range",.type "range"),(Str.ofString "tuple",.type "tuple"),(Str.ofString "str",.type "str")]
noncomputable def tids:List Int:=[20,9,10,11,12,13,14,15,16,17,18,19,1,4]
noncomputable def refIn (K:Frag) (p:Str×Nat):Bool:=isRef K p.1 (fnOf' p.2)
noncomputable def clIn (K:Frag) (c:Nat):Bool:=clsOk K (clsOf c) (attrsOf c)
noncomputable def allIn (K:Frag):Bool :=
 ((List.range gtab.length).all (gvIn K)&&(List.range tab.cnames.length).all (clIn K)&&tab.gfns.all (refIn K)&&(List.range tab.cnames.length).all (cgIn K)&&tab.inits.all (initIn K)) &&
 (tab.new0s.all (new0In K)&&tab.meths.all (methIn K)&&blts.all (bltIn K)&&nsIn K mainGlobals (Str.ofString "TID_PRIM")==some (some (.ref 145))&&dictIn K 145 tids) &&
 nsIn K mainGlobals (Str.ofString "law")==some (some (.ref (fnOf' 87)))
structure AllIn (K:Frag):Prop where
 gv:(List.range gtab.length).all (gvIn K)=true
 cl:(List.range tab.cnames.length).all (clIn K)=true
 gf:tab.gfns.all (refIn K)=true
 cg:(List.range tab.cnames.length).all (cgIn K)=true
 ini:tab.inits.all (initIn K)=true
 new0:tab.new0s.all (new0In K)=true
 meth:tab.meths.all (methIn K)=true
 blt:blts.all (bltIn K)=true
 tid:nsIn K mainGlobals (Str.ofString "TID_PRIM")=some (some (.ref 145))
 dict:dictIn K 145 tids=true
 law:nsIn K mainGlobals (Str.ofString "law")=some (some (.ref (fnOf' 87)))
theorem AllIn.of {K:Frag} (e:allIn K=true):AllIn K:=b3 e fun a b l=>b5 a fun a1 a2 a3 a4 a5=>b5 b fun c1 c2 c3 c4 c5=>⟨a1,a2,a3,a4,a5,c1,c2,c3,eq_of_beq c4,c5,eq_of_beq l⟩
section
variable {K:Frag} {w:World} {g:Heap} {mg mb:Str→Option Value} {q:Program} {loose:List Str} {mean:ExcName→Option Value}
theorem at_all {k:Nat→Bool} {α:Type} {l:List α} (e:(List.range l.length).all k=true) {i:Nat} {x:α} (h:l[i]?=some x):k i=true:=List.all_eq_true.mp e i (List.mem_range.mpr (List.getElem?_eq_some_iff.mp h).1)
noncomputable def setup (X:K.In g) (T:Top q loose mean mg mb g) (hlow:∃ o,g.get? sysModules=some o) (A:AllIn K):Setup where
 prog:=PySem.Challenge.pw_xm0318_01
 w:=w
 g:=g
 K:=K
 cls:=clsOf
 fn:=fnOf'
 mg:=mg
 mb:=mb
 low:=hlow
 inK:=X
 gns:=T.g
 bns:=T.b
 nol:=T.nolimit
 nod:=T.nodigits
 cok:=fun c hc=>List.all_eq_true.mp A.cl c (List.mem_range.mpr hc)
 gval:=fun x v nm h1 h2=>by
  have e:=at_all A.gv h1
  unfold gvIn at e
  have e:=some'_at h1 e
  have e:=some'_at h2 e
  obtain⟨r,hr,e⟩:=some'_ex e
  obtain⟨y,rfl,e⟩:=some'_ex e
  exact⟨y,mg_of X T.g hr,fun w hw=>v_of hw e⟩
 blt:=fun nm v h=>b3 (List.all_eq_true.mp A.blt (nm,v) h) fun h1 h2 h3=>⟨mg_none_of X T.g (eq_of_beq h1),(T.builtins nm (bne_iff_ne.mp h2)).trans (eq_of_beq h3)⟩
 tid:=(dict_of X A.dict).elim fun kvs h=>⟨145,kvs,mg_of X T.g A.tid,rfl,h⟩
 calls:=fun p hp=>b2 (List.all_eq_true.mp A.gf p hp) fun h1 h2=>⟨mg_of X T.g (eq_of_beq h1),h2⟩
 cg:=fun c x hx=>by
  have e:=at_all A.cg hx
  unfold cgIn at e
  have e:=some'_at hx e
  exact b2 e fun h1 h2=>⟨mg_of X T.g (eq_of_beq h1),h2⟩
 inits:=fun p hp=>b2 (List.all_eq_true.mp A.ini p hp) fun h1 h2=>⟨eq_of_beq h1,eq_of_beq h2⟩
 new0s:=fun c hc=>eq_of_beq (List.all_eq_true.mp A.new0 c hc)
 meths:=fun p hp=>b5 (List.all_eq_true.mp A.meth p hp) fun h1 h2 h3 h4 h5=>⟨of_decide_eq_true h1,eq_of_beq h2,h3,of_decide_eq_true h4,h5⟩
theorem setup_fns (X:K.In g) (T:Top q loose mean mg mb g) (hlow:∃ o,g.get? sysModules=some o) (A:AllIn K) (e:fnsIn K=true):FnsOk (setup (w:=w) X T hlow A):=fun f md hf=>fn_of X e hf
theorem law_at (X:K.In g) (G:g.Ns mainGlobals mg) (A:AllIn K):mg (Str.ofString "law")=some (.ref (fnOf' 87)):=mg_of X G A.law
theorem join_call {s:Shared} (X:K.In s.heap) (T:Top q loose mean mg mb s.heap) (hlow:∃ o,s.heap.get? sysModules=some o) (A:AllIn K) (e:fnsIn K=true)
  {a:Addr} {xs:List Value} {ns:List Int} (hL:s.heap.IsList a xs.toArray) (hI:IntsAre xs ns) (pl:CN 12 87 [.frz ns] [] fun v _=>v=.bool true) {Q:Value→Shared→Prop} {E:Value→Shared→Prop}
  (k:∀ s',(∀ b o,s.heap.get? b=some o→s'.heap.get? b=some o)→s'.gens=s.gens→s'.os=s.os→Q (.bool true) s') :
  wpAny (model PySem.Challenge.pw_xm0318_01 w) callerA (call (.ref (fnOf' 87)) [.ref a]) Q E s:=by
 have hC:CSnd _ 12:=call_all (setup_fns (w:=w) X T hlow A e) 12
 obtain⟨oa,hoa,hca,na,hda⟩:=hL
 have nf:∀ {b},¬ foot ⟨[],s⟩ b:=fun ⟨_,h,_⟩=>nomatch h
 have S:St (setup (w:=w) X T hlow A) [] ⟨[],s⟩:=⟨rfl,fun h=>(nomatch h),fun h=>(nomatch h),fun e=>e,fun f=>(nf f).elim⟩
 refine wpAny_mono (ret_call (hC (w:=⟨[],s⟩) (A:=callerA) (xs:=[.ref a]) (P:=fun x s'=>Q x s') pl ⟨rfl,by decide,by decide⟩ S (.cons (.frz hoa hca hda hI nf) .nil) fun v T' x w' q r S' ex=>?_)) (fun _ _ q=>q) fun _ _ f=>f.elim
 subst q
 cases r
 exact k w'.s (fun b o e=>ex.keep e nf id) ex.gens ex.os
end
end Mine
set_option genInjectivity false
namespace Mine
open PySem
@[elab_as_elim] theorem pp2 {α β:Type} {P:α×β→Prop} (p:α×β) (k:∀ a b,P (a,b)):P p:=k p.1 p.2
@[elab_as_elim] theorem pp3 {α β γ:Type} {P:α×β×γ→Prop} (p:α×β×γ) (k:∀ a b c,P (a,b,c)):P p:=k p.1 p.2.1 p.2.2
@[elab_as_elim] theorem pp4 {α β γ δ:Type} {P:α×β×γ×δ→Prop} (p:α×β×γ×δ) (k:∀ a b c d,P (a,b,c,d)):P p:=k p.1 p.2.1 p.2.2.1 p.2.2.2
@[elab_as_elim] theorem pp5 {α β γ δ ε:Type} {P:α×β×γ×δ×ε→Prop} (p:α×β×γ×δ×ε) (k:∀ a b c d e,P (a,b,c,d,e)):P p:=k p.1 p.2.1 p.2.2.1 p.2.2.2.1 p.2.2.2.2
@[elab_as_elim] theorem pp43 {α β γ δ ε ζ η:Type} {P:(α×β×γ×δ)×ε×ζ×η→Prop} (p:(α×β×γ×δ)×ε×ζ×η) (k:∀ a b c d e f g,P ((a,b,c,d),e,f,g)):P p:=k p.1.1 p.1.2.1 p.1.2.2.1 p.1.2.2.2 p.2.1 p.2.2.1 p.2.2.2
namespace K
noncomputable abbrev g:K:=⟨0⟩
noncomputable abbrev w:K:=⟨1⟩
noncomputable abbrev m:K:=⟨2⟩
noncomputable abbrev hp:K:=⟨3⟩
noncomputable abbrev kt:K:=⟨4⟩
noncomputable abbrev th:K:=⟨5⟩
noncomputable abbrev fr:K:=⟨6⟩
noncomputable abbrev ch:K:=⟨7⟩
noncomputable abbrev hd:K:=⟨8⟩
noncomputable abbrev oth:K:=⟨9⟩
noncomputable abbrev scr:K:=⟨10⟩
noncomputable abbrev tl:K:=⟨11⟩
noncomputable abbrev at_:K:=⟨12⟩
noncomputable abbrev cd:K:=⟨13⟩
noncomputable abbrev fin:K:=⟨14⟩
noncomputable abbrev rdy:K:=⟨15⟩
noncomputable abbrev frs:K:=⟨16⟩
noncomputable abbrev sts:K:=⟨17⟩
noncomputable abbrev chs:K:=⟨18⟩
noncomputable abbrev hes:K:=⟨19⟩
noncomputable abbrev fas:K:=⟨20⟩
noncomputable abbrev inn:K:=⟨21⟩
noncomputable abbrev fl:K:=⟨22⟩
noncomputable abbrev tx:K:=⟨23⟩
noncomputable abbrev wt:K:=⟨24⟩
noncomputable abbrev ag:K:=⟨25⟩
noncomputable abbrev wh:K:=⟨26⟩
noncomputable abbrev ce:K:=⟨27⟩
noncomputable abbrev hr:K:=⟨28⟩
noncomputable abbrev real:K:=⟨29⟩
noncomputable abbrev slots:K:=⟨30⟩
noncomputable abbrev tspec:K:=⟨31⟩
noncomputable abbrev cspec:K:=⟨32⟩
noncomputable abbrev ktl:K:=⟨33⟩
noncomputable abbrev tmp (n:Nat):K:=⟨n+34⟩
end K
noncomputable abbrev ksX (ks:List K):Nat→K→Prop:=fun _ k=>k∈ks
noncomputable abbrev anyX:Nat→K→Prop:=fun _ _=>True
noncomputable abbrev twoX (a b:Nat):Nat→K→Prop:=fun i _=>i=a∨i=b
noncomputable def Off (X:Nat→K→Prop) (T':TH) (i:Nat) (k:K):Prop:=(∃ o',T'[i]?=some (k,o'))→¬ X i k
section
variable {X Y Z:Nat→K→Prop} {T T' T₁ T₂:TH} {i j j':Nat} {k k' k₁ k₂:K} {o o' o₁ o₂:O} {x:K×O}
theorem Chg.refl (X:Nat→K→Prop) (T:TH):Chg X T T:=⟨fun h _=>h,fun h=>⟨_,h⟩⟩
theorem Chg.trans (a:Chg X T T₁) (b:Chg Y T₁ T₂) (hx:∀ (i:Nat) (k:K) (o:O),T[i]?=some (k,o)→X i k→Z i k) (hy:∀ (i:Nat) (k:K) (o:O),T[i]?=some (k,o)→Y i k→Z i k):Chg Z T T₂ :=
 ⟨fun h n=>b.get (a.get h fun q=>n (hx _ _ _ h q)) fun q=>n (hy _ _ _ h q),fun h=>b.kind (a.kind h).choose_spec⟩
theorem Chg.weaken (a:Chg X T T₁) (hx:∀ i k,X i k→Y i k):Chg Y T T₁:=⟨fun h n=>a.get h fun q=>n (hx _ _ q),a.kind⟩
theorem Chg.tr (a:Chg X T T₁) (b:Chg X T₁ T₂):Chg X T T₂:=a.trans b (fun _ _ _ _ h=>h) fun _ _ _ _ h=>h
theorem Chg.keep (a:Chg noX T T') (h:T[i]?=some (k,o)):T'[i]?=some (k,o):=a.get h id
theorem Chg.other (a:Chg (oneX j) T T') (h:T[i]?=some (k,o)) (n:i≠j):T'[i]?=some (k,o):=a.get h n
theorem some_ne {α:Type} {a:α} {p:Prop} (h:some a=none):p:=by cases h
theorem same_kind (h:T[i]?=some (k,o)) (h':T[i]?=some (k',o')):k=k':=congrArg Prod.fst (Option.some.inj (h.symm.trans h'))
theorem ne_kind (h:T[i]?=some (k,o)) (h':T[j]?=some (k',o')) (n:k≠k'):i≠j:=fun e=>by subst e;exact n (same_kind h h')
theorem Chg.otherK (a:Chg (oneX j) T T') (h:T[i]?=some (k,o)) (h':T'[j]?=some (k',o')) (n:k≠k'):T'[i]?=some (k,o) :=
 a.other h fun e=>by subst e;exact n (same_kind (a.kind h).choose_spec h')
theorem ne_none (h:T[i]?=some x) (n:T[j]?=none):i≠j:=fun e=>by subst e;exact some_ne (h.symm.trans n)
theorem ne_none' (n:T[j]?=none) (h:T[i]?=some x):i≠j:=ne_none h n
theorem Chg.look (a:Chg X T T') (h:T[i]?=some (k,o)) (n:Off X T' i k):T'[i]?=some (k,o):=a.get h (n (a.kind h))
theorem off_no:Off noX T' i k:=fun _=>id
theorem off_one (h:T'[j]?=some (k',o')) (n:k≠k'):Off (oneX j) T' i k:=fun e (q:i=j)=>by subst q;exact n (same_kind e.choose_spec h)
theorem off_ne (n:i≠j):Off (oneX j) T' i k:=fun _=>n
theorem off_not (n:¬ X i k):Off X T' i k:=fun _=>n
theorem off_ks {ks:List K} (h:k∉ks):Off (ksX ks) T' i k:=fun _=>h
theorem off_two (h₁:T'[j]?=some (k₁,o₁)) (h₂:T'[j']?=some (k₂,o₂)) (n₁:k≠k₁) (n₂:k≠k₂):Off (twoX j j') T' i k:=fun e q=>q.elim (off_one h₁ n₁ e) (off_one h₂ n₂ e)
theorem Chg.back (b:Chg Y T₁ T₂) (a:Chg Z T T₁) (hy:∀ (i:Nat) (k:K) (o:O),T[i]?=some (k,o)→Y i k→Z i k):Chg Z T T₂:=a.trans b (fun _ _ _ _ h=>h) hy
theorem none_some {p:Prop} (hn:T[j]?=none) (h:T[i]?=some x) (q:i=j):p:=by subst q;exact some_ne (h.symm.trans hn)
theorem side_no:∀ (i:Nat) (k:K) (o:O),T[i]?=some (k,o)→noX i k→Z i k:=fun _ _ _ _ h=>h.elim
theorem side_same:∀ (i:Nat) (k:K) (o:O),T[i]?=some (k,o)→Z i k→Z i k:=fun _ _ _ _ h=>h
theorem side_fresh (hn:T[j]?=none):∀ (i:Nat) (k:K) (o:O),T[i]?=some (k,o)→oneX j i k→Z i k:=fun _ _ _ h q=>none_some hn h q
theorem side_kind {ks:List K} (h₀:T[j]?=some (k₁,o₁)) (hk:k₁∈ks):∀ (i:Nat) (k:K) (o:O),T[i]?=some (k,o)→oneX j i k→ksX ks i k:=fun i k o h (q:i=j)=>by subst q;exact same_kind h₀ h▸hk
theorem side_ks {ks ks':List K} (hk:∀ k∈ks,k∈ks'):∀ (i:Nat) (k:K) (o:O),T[i]?=some (k,o)→ksX ks i k→ksX ks' i k:=fun _ _ _ _ q=>hk _ q
theorem side_any:∀ (i:Nat) (k:K) (o:O),T[i]?=some (k,o)→X i k→anyX i k:=fun _ _ _ _ _=>trivial
theorem Chg.fresh (b:Chg (oneX i) T₁ T₂) (a:Chg Z T T₁) (hn:T[i]?=none):Chg Z T T₂:=b.back a (side_fresh hn)
theorem none_back (h:T'[i]?=none) (a:Chg anyX T T'):T[i]?=none:=by
 cases q:T[i]? with
 | none=>rfl
 | some x=>exact some_ne ((a.kind (k:=x.1) (o:=x.2) q).choose_spec.symm.trans h)
end
theorem at_nat {l:List V} {j:Nat} {v:V} (h:l[j]?=some v) (hb:j<1000000):at? l (j:Int)=some v:=(if_pos (Int.natCast_nonneg j)).trans ((if_pos (Int.ofNat_lt.mpr hb)).trans h)
theorem at_last {l:List V} {v:V} (h:l.getLast?=some v) (hb:l.length≤limit):at? l (-1)=some v:=by
 have hl:0<l.length:=by cases l with
  | nil=>cases h
  | cons _ _=>exact Nat.succ_pos _
 unfold limit at hb
 unfold at?
 rw [if_neg (by decide),if_pos (by lia),show ((-1:Int)+(l.length:Int)).toNat=l.length-1 by lia,←List.getLast?_eq_getElem?]
 exact h
section
variable {T:TH} {o c i:Nat} {k:K} {ob:O} {v a b d:V} {l:List V} {Q:V→Prop}
theorem IdxY.list0 (e:T[o]?=some (k,.list (a::l))) (h:Q a):IdxY T Q (.obj o) (.int 0):=.list e rfl h
theorem IdxY.list1 (e:T[o]?=some (k,.list (a::b::l))) (h:Q b):IdxY T Q (.obj o) (.int 1):=.list e rfl h
theorem IdxY.tup0 (h:Q a):IdxY T Q (.tup (a::l)) (.int 0):=.tup (v:=a) rfl h
theorem IdxY.tup1 (h:Q b):IdxY T Q (.tup (a::b::l)) (.int 1):=.tup (v:=b) rfl h
theorem IdxY.tup2 (h:Q d):IdxY T Q (.tup (a::b::d::l)) (.int 2):=.tup (v:=d) rfl h
theorem IdxY.tupN {j:Nat} (e:l[j]?=some v) (hb:j<1000000) (h:Q v):IdxY T Q (.tup l) (.int j):=.tup (at_nat e hb) h
theorem CmpY.mem_di {l:List (Int×V)} {i:Int} {Q:Bool→Prop} (e:T[o]?=some (k,.di l)) (h:Q (dget l i).isSome):CmpY T Q .mem (.int i) (.obj o):=.memD e rfl h
theorem CmpY.nmem_di {l:List (Int×V)} {i:Int} {Q:Bool→Prop} (e:T[o]?=some (k,.di l)) (h:Q (!(dget l i).isSome)):CmpY T Q .nmem (.int i) (.obj o):=.memD e rfl h
noncomputable def isB (b:Bool) (P:Prop):Prop:=match b with|true=>P|false=>False
noncomputable def InstM (ob:O) (c:Nat) (Q:List V→Prop):Prop:=match ob with
 | .inst c' fs=>isB (Nat.beq c' c) (Q fs)
 | _=>False
noncomputable def WdM (ob:O) (Q:List V→Prop):Prop:=match ob with
 | .wd fs=>Q fs
 | _=>False
noncomputable def attrOk' (ob:O) (c i:Nat):Bool:=match ob with
 | .inst c' fs=>Nat.beq c' c&&Nat.ble i fs.length
 | _=>false
noncomputable def wdOk' (ob:O) (i:Nat):Bool:=match ob with
 | .wd fs=>Nat.ble i fs.length
 | _=>false
theorem InstY.mkO {Q:List V→Prop} (e:T[o]?=some (k,ob)) (h:InstM ob c Q):InstY T o c Q:=by
 cases ob with
 | inst c' fs =>
  have h:isB (Nat.beq c' c) (Q fs):=h
  cases q:Nat.beq c' c with
  | true=>rw [q] at h;exact .mk (Nat.eq_of_beq_eq_true q▸e) h
  | false=>rw [q] at h;exact h.elim
 | _=>exact h.elim
theorem WdY.mkO {Q:List V→Prop} (e:T[o]?=some (k,ob)) (h:WdM ob Q):WdY T o Q:=by
 cases ob with
 | wd fs=>exact .mk e h
 | _=>exact h.elim
theorem AttrPut.mkO {Q:TH→Prop} (e:T[o]?=some (k,ob)) (hi:attrOk' ob c i=true) (h:PutY T o k (putO ob i v) Q):AttrPut T o c i v Q:=by
 cases ob with
 | inst c' fs =>
  obtain⟨h1,h2⟩:=Bool.and_eq_true_iff.mp hi
  cases Nat.eq_of_beq_eq_true h1
  exact .mk e h2 h
 | _=>exact (Bool.false_ne_true hi).elim
theorem WdPut.mkO {Q:TH→Prop} (e:T[o]?=some (k,ob)) (hi:wdOk' ob i=true) (h:PutY T o k (putO ob i v) Q):WdPut T o i v Q:=by
 cases ob with
 | wd fs=>exact .mk e hi h
 | _=>exact (Bool.false_ne_true hi).elim
end
section
variable {a b n:Nat} {Q:V→Prop}
theorem BinY.addN (h:Q (.int ((a+b:Nat):Int))):BinY Q .add (.int (a:Int)) (.int (b:Int)):=.int (c:=((a+b:Nat):Int)) rfl h
theorem BinY.fdivN (hb:0<b∧b<1000000000) (h:Q (.int ((a/b:Nat):Int))):BinY Q .fdiv (.int (a:Int)) (.int (b:Int)):=.int ((if_pos ⟨Int.ofNat_lt.mpr hb.1,Int.ofNat_lt.mpr hb.2⟩).trans (congrArg some (Int.ofNat_fdiv a b).symm)) h
theorem BinY.modN (hb:0<b) (h:Q (.int ((a%b:Nat):Int))):BinY Q .mod (.int (a:Int)) (.int (b:Int)):=.int ((if_pos (Int.ofNat_lt.mpr hb)).trans (congrArg some (Int.ofNat_fmod a b).symm)) h
theorem BinY.addO (hl:Nat.ble n 1000000=true) (h:Q (.int ((a+@OfNat.ofNat Nat n (instOfNatNat n):Nat):Int))):BinY Q .add (.int (a:Int)) (.int (@OfNat.ofNat Int n (@instOfNat n))):=.addN h
theorem BinY.addOL (hl:Nat.ble n 1000000=true) (h:Q (.int ((@OfNat.ofNat Nat n (instOfNatNat n)+a:Nat):Int))):BinY Q .add (.int (@OfNat.ofNat Int n (@instOfNat n))) (.int (a:Int)):=.addN h
theorem BinY.fdivO (hl:Nat.ble n 1000000=true) (hb:Nat.ble 1 n=true) (h:Q (.int ((a/@OfNat.ofNat Nat n (instOfNatNat n):Nat):Int))):BinY Q .fdiv (.int (a:Int)) (.int (@OfNat.ofNat Int n (@instOfNat n))):=.fdivN ⟨Nat.le_of_ble_eq_true hb,Nat.lt_of_le_of_lt (Nat.le_of_ble_eq_true hl) (Nat.le_of_ble_eq_true rfl)⟩ h
theorem BinY.modO (hl:Nat.ble n 1000000=true) (hb:Nat.ble 1 n=true) (h:Q (.int ((a%@OfNat.ofNat Nat n (instOfNatNat n):Nat):Int))):BinY Q .mod (.int (a:Int)) (.int (@OfNat.ofNat Int n (@instOfNat n))):=.modN (Nat.le_of_ble_eq_true hb) h
end
theorem PutY.tr {T0 T:TH} {o:Nat} {k:K} {x:O} {Q:TH→Prop} (c:Chg (oneX o) T0 T) (h:∀ T',T'[o]?=some (k,x)→Chg (oneX o) T0 T'→Q T'):PutY T o k x Q:=⟨fun T' h1 h2=>h T' h1 (c.tr h2)⟩
section
variable {d:Bool} {T:TH} {Q:PS'} {x y:TH→PS'→Prop} {ρ:Rho}
theorem ite_t (h:d=true) (k:x T Q):kIte x y Q d T:=⟨fun _=>k,fun e=>(Bool.false_ne_true (e.symm.trans h)).elim⟩
theorem ite_f (h:d=false) (k:y T Q):kIte x y Q d T:=⟨fun e=>(Bool.false_ne_true (h.symm.trans e)).elim,fun _=>k⟩
theorem bo_go {b:Bool} {r:TH→PE'→Prop} {Q:PE'} (h:d=b) (k:r T Q):kBo1 Q b r d T:=⟨fun _=>k,fun e=>by subst h;cases d<;>exact (Bool.noConfusion e)⟩
theorem bo_end {b:Bool} {r:TH→PE'→Prop} {Q:PE'} (h:d=!b) (k:Q (.bool (!b)) T):kBo1 Q b r d T:=⟨fun e=>by subst e;cases d<;>exact (Bool.noConfusion h),fun _=>k⟩
theorem while_t {J:Rho→TH→Prop} (h:d=true) (k:x T (TurnQ J Q)):kWhile J x Q ρ d T:=⟨fun _=>k,fun e=>(Bool.false_ne_true (e.symm.trans h)).elim⟩
theorem while_f {J:Rho→TH→Prop} (h:d=false) (k:Q (none,ρ) T):kWhile J x Q ρ d T:=⟨fun e=>(Bool.false_ne_true (h.symm.trans e)).elim,fun _=>k⟩
end
section
variable {T:TH} {Q:PS'} {W:XS} {c:XE} {ρ:Rho} {o t n:Nat} {ts:List Nat}
theorem ForY.over (I:Nat→Rho→TH→Prop) (h:ListY T o fun k l=>I 0 ρ T∧(∀ j x ρ T,l[j]?=some x→I j ρ T→T[o]?=some (k,.list l)→GetM (setTarget ρ ts x) fun ρ=>W ρ T (TurnQ (fun ρ T=>I (j+1) ρ T∧T[o]?=some (k,.list l)) Q)) ∧
  ∀ ρ T,I l.length ρ T→T[o]?=some (k,.list l)→Q (none,ρ) T):ForY ts W Q ρ T (.obj o):=by
 cases h with|@mk k l e h =>
 refine .list l.length (fun j=>if j≤l.length then fun ρ T=>I j ρ T∧T[o]?=some (k,.list l) else fun _ _=>False) (by rw [if_pos (Nat.zero_le _)];exact⟨h.1,e⟩) fun j ρ T hI=>?_
 rcases Nat.lt_trichotomy j l.length with q|q|q
 ·rw [if_pos (Nat.le_of_lt q)] at hI
  rw [if_pos (Nat.succ_le_of_lt q)]
  exact .item hI.2 (List.getElem?_eq_getElem q) q (h.2.1 j _ ρ T (List.getElem?_eq_getElem q) hI.1 hI.2)
 ·subst q
  rw [if_pos (Nat.le_refl _)] at hI
  exact .done hI.2 (Nat.le_refl _) (h.2.2 ρ T hI.1 hI.2)
 ·rw [if_neg (Nat.not_le_of_gt q)] at hI
  exact hI.elim
noncomputable def FV (ts:List Nat) (W:XS) (Q:PS') (o:Nat):Nat→Nat→Rho→TH→Prop
 | 0,_,_,_=>False
 | m+1,j,ρ,T=>LiveY T o (j+1) j (fun x=>GetM (setTarget ρ ts x) fun ρ=>W ρ T (TurnQ (FV ts W Q o m (j+1)) Q)) (Q (none,ρ) T)
theorem ForY.unroll (n:Nat) (h:FV ts W Q o n 0 ρ T):ForY ts W Q ρ T (.obj o):=by
 refine .list n (fun j=>FV ts W Q o (n-j) j) h fun j ρ T h=>?_
 cases e:n-j with
 | zero=>rw [e] at h;exact h.elim
 | succ m =>
  rw [e] at h
  have e':n-(j+1)=m:=congrArg Nat.pred e
  rw [e']
  cases h with
  | item a b _ d=>exact .item a b (Nat.sub_pos_iff_lt.mp (by rw [e];exact Nat.succ_pos m)) d
  | done a b d=>exact .done a b d
theorem FV.step {k:K} {l:List V} {x:V} {m j:Nat} (e:T[o]?=some (k,.list l)) (hx:l[j]?=some x) (h:GetM (setTarget ρ ts x) fun ρ=>W ρ T (TurnQ (FV ts W Q o m (j+1)) Q)):FV ts W Q o (m+1) j ρ T:=LiveY.item e hx (Nat.lt_succ_self _) h
theorem FV.done {k:K} {l:List V} {m j:Nat} (e:T[o]?=some (k,.list l)) (hl:l.length=j) (h:Q (none,ρ) T):FV ts W Q o (m+1) j ρ T:=LiveY.done e (Nat.le_of_eq hl) h
theorem RangeY.over (I:Nat→Rho→TH→Prop) (h:n≤limit∧I 0 ρ T∧(∀ (j:Nat) ρ T,j<n→I j ρ T→GetM (setR ρ t (.int j)) fun ρ=>W ρ T (TurnQ (I (j+1)) Q))∧∀ ρ T,I n ρ T→Q (none,ρ) T):RangeY t W Q ρ T (.int n) :=
 .mk I h.1 h.2.1 (fun j ρ T hi hj=>h.2.2.1 j ρ T hj hi) h.2.2.2
noncomputable def RV (t:Nat) (W:XS) (Q:PS'):Nat→Nat→Rho→TH→Prop
 | 0,_,ρ,T=>Q (none,ρ) T
 | m+1,j,ρ,T=>GetM (setR ρ t (.int j)) fun ρ=>W ρ T (TurnQ (RV t W Q m (j+1)) Q)
theorem RV.step {m j:Nat} (h:GetM (setR ρ t (.int j)) fun ρ=>W ρ T (TurnQ (RV t W Q m (j+1)) Q)):RV t W Q (m+1) j ρ T:=h
theorem RV.done {j:Nat} (h:Q (none,ρ) T):RV t W Q 0 j ρ T:=h
theorem RangeY.unroll (hn:n≤limit) (h:RV t W Q n 0 ρ T):RangeY t W Q ρ T (.int n):=by
 refine .mk (n:=n) (fun j=>RV t W Q (n-j) j) hn h (fun j ρ T h hj=>?_) fun ρ T h=>?_
 ·have e:n-j=n-(j+1)+1:=(Nat.sub_add_cancel (Nat.sub_pos_of_lt hj)).symm
  rw [e] at h
  exact h
 ·rw [Nat.sub_self] at h;exact h
theorem WhileY.over (I:Nat→Rho→TH→Prop) (m:Nat) (h:I m ρ T) (hs:∀ m ρ T,I m ρ T→c ρ T (kBM (kWhile (fun ρ T=>∃ m',m'<m∧I m' ρ T) (W ρ) Q ρ))):WhileY c W Q ρ T:=.mk I h fun m ρ T h=>⟨_,fun _ _ h=>h,hs m ρ T h⟩
noncomputable def WV (c:XE) (W:XS) (Q:PS'):Nat→Rho→TH→Prop
 | 0,_,_=>False
 | m+1,ρ,T=>c ρ T (kBM (kWhile (WV c W Q m) (W ρ) Q ρ))
theorem WhileY.unroll (n:Nat) (h:WV c W Q n ρ T):WhileY c W Q ρ T:=.mk (WV c W Q) h fun m ρ T h=>by
 cases m with
 | zero=>exact h.elim
 | succ m=>exact⟨_,fun _ _ h=>⟨m,Nat.lt_succ_self m,h⟩,h⟩
end
noncomputable abbrev ItemC (C:CallP) (ρ:Rho) (elt c:E) (T:TH) (r:Option V):Prop:=ItemX (fun T Q=>EV C ρ elt T Q) (fun T Q=>EV C ρ c T Q) T r
theorem ItemC.cond {C:CallP} {ρ:Rho} {elt c:E} {T:TH} {p:Bool} {v:V} (hc:PureB (fun T Q=>EV C ρ c T Q) T p) (he:PureX (fun T Q=>EV C ρ elt T Q) T v):ItemC C ρ elt c T (if p then some v else none):=by
 cases p with
 | true=>exact⟨he,hc⟩
 | false=>exact hc
theorem call_fn {n f:Nat} {fd:Fn} {args:List V} {T:TH} {Q:PE'} (hf:fns[f]?=some fd) (hl:args.length=fd.np) (h:SV (CN n) (args.map some++List.replicate (fd.nl-fd.np) none) fd.body T fun r T=>Q (r.1.getD .none) T):CallY (CN (n+1)) f args T Q:=by
 refine⟨?_⟩
 show GetM fns[f]? _
 rw [hf]
 exact⟨hl,h⟩
set_option genInjectivity false
noncomputable def kin (l:List Nat) (k:K):Bool:=l.contains k.n
structure OffP (p:List Nat) (T T':TH):Prop where
 g:∀ {i:Nat} {k:K} {o:O},T[i]?=some (k,o)→kin p k=true→T'[i]?=some (k,o)
section
variable {p:List Nat} {T T' T₁:TH} {i j:Nat} {k:K} {o ob:O} {L:List (Nat×K×O)}
theorem OffP.no (c:Chg noX T T'):OffP p T T':=⟨fun h _=>c.keep h⟩
theorem kin_not {ks:List K} (h:ks.all (fun k=>!kin p k)=true) (hp:kin p k=true):k∉ks:=fun q=>by
 have:=List.all_eq_true.mp h k q
 rw [hp] at this;cases this
theorem OffP.ks {ks:List K} (c:Chg (ksX ks) T T') (h:ks.all (fun k=>!kin p k)=true:=by rfl):OffP p T T':=⟨fun hi hp=>c.get hi (kin_not h hp)⟩
theorem OffP.one (c:Chg (oneX j) T T') (hj:T'[j]?=some (k,ob)) (h:kin p k=false:=by rfl):OffP p T T':=⟨fun hi hp=>c.otherK hi hj fun e=>by rw [e,h] at hp;cases hp⟩
theorem OffP.tr (a:OffP p T T₁) (b:OffP p T₁ T'):OffP p T T':=⟨fun h q=>b.g (a.g h q) q⟩
noncomputable def AllK (L:List (Nat×K×O)) (T:TH):Prop:=∀ x∈L,T[x.1]?=some x.2
theorem AllK.g (A:AllK L T) (j:Nat) (h:L[j]?=some (i,k,o):=by rfl):T[i]?=some (k,o):=A _ (List.mem_of_getElem? h)
theorem AllK.off (A:AllK L T) (q:OffP p T T') (h:L.all (fun x=>kin p x.2.1)=true):AllK L T':=fun x hx=>q.g (A x hx) (List.all_eq_true.mp h x hx)
noncomputable def offK (j n:Nat) (L:List (Nat×K×O)):Bool:=(L.eraseIdx j).all fun x=>x.2.1.n != n
theorem AllK.put (A:AllK L T) (j:Nat) (c:Chg (oneX i) T T') (h':T'[i]?=some (k,ob)) (h:offK j k.n L=true):AllK (L.set j (i,k,ob)) T':=fun x hx=>by
 obtain⟨m,hm⟩:=List.getElem?_of_mem hx
 rw [List.getElem?_set] at hm
 split at hm
 ·split at hm
  ·cases hm;exact h'
  ·cases hm
 ·rename_i ne
  have hx:x∈L.eraseIdx j:=List.mem_eraseIdx_iff_getElem?.mpr ⟨m,Ne.symm ne,hm⟩
  exact c.otherK (A x (List.mem_of_getElem? hm)) h' fun e=>by
   have:=List.all_eq_true.mp h x hx
   rw [e,bne_self_eq_false] at this;cases this
theorem set_same {α:Type} {l:List α} {j:Nat} {a:α} (h:l[j]?=some a):l.set j a=l:=by
 obtain⟨hl,rfl⟩:=List.getElem?_eq_some_iff.mp h
 exact List.set_getElem_self hl
structure FL (L:List (Nat×K×O)) (T:TH):Prop where
 at_:AllK L T
 nd:(L.map (·.1)).Nodup
theorem FL.g (F:FL L T) (j:Nat) (h:L[j]?=some (i,k,o):=by rfl):T[i]?=some (k,o):=F.at_.g j h
theorem FL.put (F:FL L T) (j:Nat) (h:L[j]?=some (i,k,o)) (c:Chg (oneX i) T T') (h':T'[i]?=some (k,ob)):FL (L.set j (i,k,ob)) T':=by
 have e:(L.set j (i,k,ob)).map (·.1)=L.map (·.1):=by
  rw [List.map_set]
  exact set_same (by rw [List.getElem?_map,h];rfl)
 refine⟨fun x hx=>?_,e▸F.nd⟩
 obtain⟨m,hm⟩:=List.getElem?_of_mem hx
 rw [List.getElem?_set] at hm
 split at hm
 ·split at hm
  ·cases hm;exact h'
  ·cases hm
 ·rename_i ne
  exact c.other (F.at_ x (List.mem_of_getElem? hm)) fun q=>ne ((List.getElem?_inj (by rw [List.length_map];exact (List.getElem?_eq_some_iff.mp h).1) F.nd).mp (by rw [List.getElem?_map,List.getElem?_map,h,hm,Option.map_some,Option.map_some,q]))
theorem FL.off (F:FL L T) (q:OffP p T T') (h:L.all (fun x=>kin p x.2.1)=true):FL L T':=⟨F.at_.off q h,F.nd⟩
end
theorem AllK.cons {L:List (Nat×K×O)} {T:TH} {i:Nat} {k:K} {o:O} (h:T[i]?=some (k,o)) (A:AllK L T):AllK ((i,k,o)::L) T:=List.forall_mem_cons.mpr ⟨h,A⟩
theorem AllK.nil {T:TH}:AllK [] T:=fun _ h=>(nomatch h)
section
variable {G:Type} {T:TH} {Q:PS'} {W:XS} {c:XE} {ρ:Rho} {o t n:Nat} {ts:List Nat}
theorem ForY.gh (f:G→Rho) (I:Nat→G→TH→Prop) {k:K} {l:List V} (e:T[o]?=some (k,.list l)) (x0:G) (h0:I 0 x0 T)
  (hs:∀ (Q':PS') (j:Nat) (x:G) (v:V) (T:TH),l[j]?=some v→I j x T→T[o]?=some (k,.list l)→(∀ x' T',I (j+1) x' T'→T'[o]?=some (k,.list l)→Q' (none,f x') T')→(∀ v ρ T',Q (some v,ρ) T'→Q' (some v,ρ) T')→GetM (setTarget (f x) ts v) fun ρ=>W ρ T Q')
  (hd:∀ x T,I l.length x T→T[o]?=some (k,.list l)→Q (none,f x) T):ForY ts W Q (f x0) T (.obj o) :=
 ForY.over (fun j ρ T=>∃ x,ρ=f x∧I j x T) (.mk e ⟨⟨x0,rfl,h0⟩,fun j v ρ T hv hI ho=>hI.elim fun x h=>h.1▸hs _ j x v T hv h.2 ho (fun x' T' h ho=>⟨⟨x',rfl,h⟩,ho⟩) fun _ _ _ h=>h,fun ρ T hI ho=>hI.elim fun x h=>h.1▸hd x T h.2 ho⟩)
theorem RangeY.gh (f:G→Rho) (I:Nat→G→TH→Prop) (hn:n≤limit) (x0:G) (h0:I 0 x0 T)
  (hs:∀ (Q':PS') (j:Nat) (x:G) (T:TH),j<n→I j x T→(∀ x' T',I (j+1) x' T'→Q' (none,f x') T')→(∀ v ρ T',Q (some v,ρ) T'→Q' (some v,ρ) T')→GetM (setR (f x) t (.int j)) fun ρ=>W ρ T Q')
  (hd:∀ x T,I n x T→Q (none,f x) T):RangeY t W Q (f x0) T (.int n) :=
 RangeY.over (fun j ρ T=>∃ x,ρ=f x∧I j x T) ⟨hn,⟨x0,rfl,h0⟩,fun j ρ T hj hI=>hI.elim fun x h=>h.1▸hs _ j x T hj h.2 (fun x' T' h=>⟨x',rfl,h⟩) fun _ _ _ h=>h,fun ρ T hI=>hI.elim fun x h=>h.1▸hd x T h.2⟩
theorem WhileY.gh (f:G→Rho) (μ:G→Nat) (I:G→TH→Prop) (x0:G) (h0:I x0 T)
  (hs:∀ (Q':PS') (x:G) (T:TH),I x T→(∀ x' T',μ x'<μ x→I x' T'→Q' (none,f x') T')→(∀ v ρ T',Q (some v,ρ) T'→Q' (some v,ρ) T')→c (f x) T (kBM fun d T=>(d=true→W (f x) T Q')∧(d=false→Q (none,f x) T))):WhileY c W Q (f x0) T :=
 WhileY.over (fun m ρ T=>∃ x,ρ=f x∧μ x=m∧I x T) (μ x0) ⟨x0,rfl,rfl,h0⟩ fun m ρ T hI=>hI.elim fun x h=>by
  obtain⟨rfl,rfl,h⟩:=h
  exact hs _ x T h (fun x' T' hm h=>⟨μ x',hm,x',rfl,rfl,h⟩) fun _ _ _ h=>h
end
section
variable {α β:Type} {l:List α} {f:α→β} {n:Nat} {a:α}
theorem lmL (h:l.length≤n) (e:Nat.ble (n+1) 100000=true:=by rfl):(l.map f).length<limit:=by
 rw [List.length_map];exact Nat.lt_of_le_of_lt h (Nat.le_of_ble_eq_true e)
theorem lmLe (h:l.length≤n) (e:Nat.ble (n+1) 100000=true:=by rfl):(l.map f).length≤limit:=Nat.le_of_lt (lmL h e)
theorem apL (h:l.length≤n):(l++[a]).length≤n+1:=by rw [List.length_append];exact Nat.succ_le_succ h
theorem limL' (h:l.length≤n) (e:Nat.ble (n+1) 100000=true:=by rfl):l.length<limit:=Nat.lt_of_le_of_lt h (Nat.le_of_ble_eq_true e)
theorem mpL (h:l.length≤n):(l.map f).length≤n:=by rw [List.length_map];exact h
end
theorem ForY.app {α G:Type} {T:TH} {Q:PS'} {W:XS} {ts:List Nat} (f:G→Rho) {so o:Nat} {k kt:K} {l:List α} {enc:α→V} (out:α→List Nat) {acc:List Nat} (n B:Nat) (e:T[so]?=some (k,.list (l.map enc))) (hO:T[o]?=some (kt,.list (acc.map .obj))) (hk:k≠kt) (ho:∀ a,(out a).length≤n) (hB:acc.length+n*l.length≤B) (x0:G)
  (hs:∀ (Q':PS') (a:α) (rows:List Nat) (x:G) (T':TH),a∈l→rows.length≤B→T'[o]?=some (kt,.list (rows.map .obj))→Chg (oneX o) T T'→(∀ x' T'',T''[o]?=some (kt,.list ((rows++out a).map .obj))→Chg (oneX o) T T''→Q' (none,f x') T'')→GetM (setTarget (f x) ts (enc a)) fun ρ=>W ρ T' Q')
  (hd:∀ x T',T'[o]?=some (kt,.list ((acc++l.flatMap out).map .obj))→Chg (oneX o) T T'→Q (none,f x) T'):ForY ts W Q (f x0) T (.obj so):=by
 refine ForY.gh f (fun j _ T'=>T'[o]?=some (kt,.list ((acc++(l.take j).flatMap out).map .obj))∧Chg (oneX o) T T') e x0 ⟨by rw [List.take_zero,List.flatMap_nil,List.append_nil];exact hO,.refl _ _⟩ ?_ ?_
 ·intro Q' j x v T' hv h hso q _
  rw [List.getElem?_map] at hv
  obtain⟨a,ha,rfl⟩:=Option.map_eq_some_iff.mp hv
  refine hs Q' a _ x T' (List.mem_of_getElem? ha) ?_ h.1 h.2 fun x' T'' h1 h2=>q x' T'' ⟨?_,h2⟩ (h2.otherK e h1 hk)
  ·have hl:∀ l:List α,(l.flatMap out).length≤n*l.length:=fun l=>by
    induction l with
    | nil=>exact Nat.zero_le _
    | cons b l ih=>rw [List.flatMap_cons,List.length_append,List.length_cons,Nat.mul_succ,Nat.add_comm];exact Nat.add_le_add ih (ho b)
   rw [List.length_append]
   exact Nat.le_trans (Nat.add_le_add_left (Nat.le_trans (hl _) (Nat.mul_le_mul_left n (List.take_sublist j l).length_le)) _) hB
  ·rw [List.take_add_one,ha,Option.toList_some,List.flatMap_append,←List.append_assoc,List.flatMap_singleton];exact h1
 ·intro x T' h _
  rw [List.length_map,List.take_length] at h
  exact hd x T' h.1 h.2
theorem ForY.split {α G:Type} {T:TH} {Q:PS'} {W:XS} {ts:List Nat} (f:G→Rho) (I:List α→List α→G→TH→Prop) {o:Nat} {k:K} {l:List α} {enc:α→V} (e:T[o]?=some (k,.list (l.map enc))) (x0:G) (h0:I [] l x0 T)
  (hs:∀ (Q':PS') (pre:List α) (a:α) (post:List α) (x:G) (T:TH),pre++a::post=l→I pre (a::post) x T→T[o]?=some (k,.list (l.map enc))→(∀ x' T',I (pre++[a]) post x' T'→T'[o]?=some (k,.list (l.map enc))→Q' (none,f x') T')→(∀ v ρ T',Q (some v,ρ) T'→Q' (some v,ρ) T')→GetM (setTarget (f x) ts (enc a)) fun ρ=>W ρ T Q')
  (hd:∀ x T,I l [] x T→T[o]?=some (k,.list (l.map enc))→Q (none,f x) T):ForY ts W Q (f x0) T (.obj o):=by
 refine ForY.gh f (fun j x T=>I (l.take j) (l.drop j) x T) e x0 h0 (fun Q' j x v T hv h ho q r=>?_) fun x T h ho=>?_
 ·rw [List.getElem?_map] at hv
  obtain⟨a,ha,rfl⟩:=Option.map_eq_some_iff.mp hv
  obtain⟨p1,p2⟩:=List.getElem?_eq_some_iff.mp ha
  have e1:l.drop j=a::l.drop (j+1):=p2▸List.drop_eq_getElem_cons p1
  refine hs Q' (l.take j) a (l.drop (j+1)) x T (by rw [←e1,List.take_append_drop]) (e1▸h) ho (fun x' T' h ho=>q x' T' ?_ ho) r
  rw [List.take_add_one,ha];exact h
 ·rw [List.length_map,List.take_length,List.drop_length] at h
  exact hd x T h ho
theorem filter_all {α:Type} {l:List α}:l.filter (fun _=>true)=l:=List.filter_eq_self.mpr fun _ _=>rfl
theorem flat_if {α:Type} {l:List α} {p:α→Bool} {f:α→Nat}:(l.flatMap fun a=>if p a then [f a] else [])=(l.filter p).map f:=by
 induction l with
 | nil=>rfl
 | cons a l ih=>rw [List.flatMap_cons,List.filter_cons,ih];cases p a<;>rfl
theorem ForY.app1 {α G:Type} {T:TH} {Q:PS'} {W:XS} {ts:List Nat} {f:G→Rho} {so o:Nat} {k kt:K} {l:List α} {acc:List V} {id id':α→Nat} {p:α→Bool} (n B:Nat) (e:T[so]?=some (k,.list (l.map fun a=>.obj (id a)))) (hO:T[o]?=some (kt,.list acc)) (hk:so≠o) (ha:acc.length≤n) (hB:l.length≤B) (x0:G)
  (hs:∀ (Q':PS') (a:α) (rows:List V) (x:G) (T':TH),a∈l→rows.length≤n+B→T'[o]?=some (kt,.list rows)→Chg (oneX o) T T'→(p a=true→∀ x' T'',T''[o]?=some (kt,.list (rows++[.obj (id' a)]))→Chg (oneX o) T T''→Q' (none,f x') T'')→(p a=false→∀ x',Q' (none,f x') T')→GetM (setTarget (f x) ts (.obj (id a))) fun ρ=>W ρ T' Q')
  (hd:∀ x T',T'[o]?=some (kt,.list (acc++(l.filter p).map fun a=>.obj (id' a)))→Chg (oneX o) T T'→Q (none,f x) T'):ForY ts W Q (f x0) T (.obj so):=by
 refine ForY.split f (fun pre post _ T'=>T'[o]?=some (kt,.list (acc++(pre.filter p).map fun a=>.obj (id' a)))∧Chg (oneX o) T T') e x0 ⟨(List.append_nil acc).symm▸hO,.refl _ _⟩ (fun Q' pre a post x T' el h hso q _=>?_) fun x T' h _=>hd x T' h.1 h.2
 have hl:(acc++(pre.filter p).map fun a=>V.obj (id' a)).length≤n+B:=by
  rw [List.length_append,List.length_map]
  exact Nat.add_le_add ha (Nat.le_trans (List.length_filter_le ..) (Nat.le_trans (by rw [←el,List.length_append];exact Nat.le_add_right _ _) hB))
 refine hs Q' a _ x T' (el▸List.mem_append_right _ (.head _)) hl h.1 h.2 (fun hp x' T'' h1 h2=>q x' T'' ⟨?_,h2⟩ (h2.other e hk)) fun hp x'=>q x' T' ⟨?_,h.2⟩ hso
 ·rw [List.filter_append,List.filter_cons_of_pos hp,List.map_append,←List.append_assoc];exact h1
 ·rw [List.filter_append,List.filter_cons_of_neg (fun e=>Bool.false_ne_true (hp.symm.trans e)),List.filter_nil,List.append_nil];exact h.1
theorem pop_len {α:Type} {l:List α} (h:l.length≠0):∃ ws r,l=ws++[r]∧l.length=ws.length+1:=by
 refine⟨_,_,(List.dropLast_concat_getLast fun e=>h (by rw [e];rfl)).symm,?_⟩
 rw [List.length_dropLast];exact (Nat.succ_pred_eq_of_pos (Nat.pos_of_ne_zero h)).symm
theorem pop_at {α β:Type} {l ws:List α} {r:α} {f:α→β} (h:l=ws++[r]):(l.map f)[(l.map f).length-1]?=some (f r)∧(l.map f).eraseIdx ((l.map f).length-1)=ws.map f:=by
 subst h
 rw [List.map_append,List.length_append]
 exact⟨List.getElem?_concat_length,List.eraseIdx_append_of_length_le (Nat.le_refl _) _ |>.trans (by rw [Nat.sub_self];exact List.append_nil _)⟩
theorem LenY.map {α:Type} {T:TH} {o n:Nat} {k:K} {l:List α} {f:α→V} {Q:Nat→Prop} (e:T[o]?=some (k,.list (l.map f))) (h:l.length≤n) (q:Q l.length) (b:Nat.ble (n+1) 100000=true:=by rfl):LenY T Q (.obj o):=.list e (lmLe h b) (by rw [List.length_map];exact q)
theorem LenY.dim {α:Type} {T:TH} {o n:Nat} {k:K} {l:List α} {f:α→Int×V} {Q:Nat→Prop} (e:T[o]?=some (k,.di (l.map f))) (h:l.length≤n) (q:Q l.length) (b:Nat.ble (n+1) 100000=true:=by rfl):LenY T Q (.obj o):=.di e (lmLe h b) (by rw [List.length_map];exact q)
theorem RangeY.split {α G:Type} {T:TH} {Q:PS'} {W:XS} {t:Nat} (f:G→Rho) (I:List α→List α→G→TH→Prop) (l:List α) (hn:l.length≤limit) (x0:G) (h0:I [] l x0 T)
  (hs:∀ (Q':PS') (pre:List α) (a:α) (post:List α) (x:G) (T:TH),pre++a::post=l→I pre (a::post) x T→(∀ x' T',I (pre++[a]) post x' T'→Q' (none,f x') T')→(∀ v ρ T',Q (some v,ρ) T'→Q' (some v,ρ) T')→GetM (setR (f x) t (.int (pre.length:Nat))) fun ρ=>W ρ T Q')
  (hd:∀ x T,I l [] x T→Q (none,f x) T):RangeY t W Q (f x0) T (.int (l.length:Nat)):=by
 refine RangeY.gh f (fun j x T=>I (l.take j) (l.drop j) x T) hn x0 h0 (fun Q' j x T hj h q r=>?_) fun x T h=>?_
 ·have e1:l.drop j=l[j]::l.drop (j+1):=List.drop_eq_getElem_cons hj
  have e2:(l.take j).length=j:=List.length_take_of_le (Nat.le_of_lt hj)
  have:=hs Q' (l.take j) l[j] (l.drop (j+1)) x T (by rw [←e1,List.take_append_drop]) (e1▸h) (fun x' T' h=>q x' T' (by rw [List.take_add_one,List.getElem?_eq_getElem hj];exact h)) r
  rw [e2] at this;exact this
 ·rw [List.take_length,List.drop_length] at h
  exact hd x T h
set_option genInjectivity false
local macro_rules | `(tactic| k_ne) => `(tactic| first | assumption | exact Ne.symm (by assumption) | decide)
local macro_rules | `(tactic| k_caughtN0) => `(tactic| first
 | exact off_no | exact off_one (by assumption) (by k_ne) | exact off_ne (by k_ne) | exact off_ks (by decide) | exact off_not (by assumption))
local macro_rules | `(tactic| k_caughtNB) => `(tactic| first | assumption | exact Chg.look (by assumption) (by k_caughtNB) (by k_caughtN0))
local macro_rules | `(tactic| k_put) => `(tactic| ((first | (apply PutY.tr; assumption) | apply PutY.intro); intro T' hT' hC'))
local macro_rules | `(tactic| k_size) => `(tactic| (exact Nat.le_of_ble_eq_true rfl; try dsimp only [List.length_cons, List.length_nil, Nat.zero_add, Nat.reduceAdd, Int.cast_ofNat_Int, Int.ofNat_zero, Int.ofNat_one]))
local macro_rules | `(tactic| o_fieldsN) => `(tactic| first
 | (apply InstY.mkO; k_caughtNB)
 | (apply CmpY.int; rfl) | (apply CmpY.isn; rfl) | (apply CmpY.str; rfl)
 | (apply BinY.int; rfl; try dsimp only [Int.reduceSub, Int.reduceAdd, Int.reduceMul, Int.reduceNeg])
 | apply IdxY.tup0 | apply IdxY.tup1 | apply IdxY.tup2 | (apply IdxY.list0; k_caughtNB) | (apply IdxY.list1; k_caughtNB)
 | (apply WdY.mkO; k_caughtNB)
 | (apply ListY.mk; k_caughtNB)
 | (apply DiY.mk; k_caughtNB)
 | (apply DictY.di; k_caughtNB) | (apply DictY.ds; k_caughtNB) | (apply DictY.dt; k_caughtNB) | (apply Get2Y.di; k_caughtNB) | (apply Get2Y.ds; k_caughtNB)
 | (apply LenY.tup; k_size) | (apply LenY.list; k_caughtNB; k_size)
 | (apply AttrPut.mkO; k_caughtNB; rfl) | (apply WdPut.mkO; k_caughtNB; rfl)
 | k_put
 | (apply NewY.intro; intro i T' hn' hT' hC')
 | (apply CapsY.mk; rfl) | (apply GetY.mk; rfl)
 | (refine And.intro (by first | exact Nat.le_of_ble_eq_true rfl | exact (show augOk _ = true from rfl)) ?_))
local macro_rules | `(tactic| k_caughtB) => `(tactic| first
 | exact Chg.refl _ _
 | assumption
 | exact Chg.back (by assumption) (by k_caughtB) (by first | exact side_any | exact side_no | exact side_same | exact side_fresh (by assumption) | exact side_fresh (none_back (by assumption) (by k_caughtB)) | exact side_kind (by assumption) (by decide) | exact side_ks (by decide) | assumption))
local macro_rules | `(tactic| k_asm) => `(tactic| first | exact decide_eq_true (by omega) | exact decide_eq_false (by omega) | (simp; done) | (simp; omega) | exact Bool.of_not_eq_false (fun hb => by simp at hb; omega) | exact Bool.of_not_eq_true (fun hb => by simp at hb; omega))
local macro_rules | `(tactic| k_caught0) => `(tactic| first
 | refine ite_t rfl ?_ | refine ite_f rfl ?_ | refine bo_go rfl ?_ | refine bo_end rfl ?_ | refine while_t rfl ?_ | refine while_f rfl ?_
 | refine ite_t (by k_asm) ?_ | refine ite_f (by k_asm) ?_ | refine bo_go (by k_asm) ?_ | refine bo_end (by k_asm) ?_ | refine while_t (by k_asm) ?_ | refine while_f (by k_asm) ?_)
local macro_rules | `(tactic| k_ownIn) => `(tactic| repeat first | o_fieldsN | k_caught0)
local macro_rules | `(tactic| k_updF) => `(tactic| repeat first | o_fieldsN | k_caught0 | refine HandS.intro (WhileY.unroll 99 ?_))
theorem sp_words_for {n:Nat} {c:Nat} {T:TH} {Q:V→TH→Prop} (h:Q (.int (if 2+c<3 then 3 else 2+c:Nat)) T):CallY (CN (n+1)) 0 [.int c] T Q:=by
 refine call_fn (fd:=fd_words_for) (by rfl) (by rfl) ?_
 show SV _ [some (.int c)] _ _ _
 repeat o_fieldsN
 refine⟨fun hb=>?_,fun hb=>?_⟩<;>(dsimp only [List.cons_append,List.nil_append];repeat o_fieldsN)
 ·have:2+c<3:=by simp at hb;omega
  rw [if_pos this] at h;exact h
 ·have:¬ 2+c<3:=by simp at hb;omega
  rw [if_neg this] at h;exact h
theorem sp_Thing {n:Nat} {t a sl:Nat} {kd:Int} {l:List V} {kk:K} {T:TH} {Q:V→TH→Prop} (ht:T[t]?=some (.th,.inst 0 [])) (hs:T[sl]?=some (kk,.list l)) (hl:0<l.length∧l.length≤limit) (hk:kk≠.th)
  (h:∀ T',T'[t]?=some (.th,.inst 0 [.int a,.int kd,.obj sl,.int 0,.int (2+l.length:Nat),.int 0])→Chg (oneX t) T T'→Q .none T'):CallY (CN (n+2)) 1 [.obj t,.int a,.int kd,.obj sl] T Q:=by
 refine call_fn (fd:=fd_Thing_init) (by rfl) (by rfl) ?_
 show SV _ [some (.obj t),some (.int a),some (.int kd),some (.obj sl)] _ _ _
 repeat o_fieldsN
 refine LenY.list (by k_caughtNB) (by lia) ?_
 repeat o_fieldsN
 refine sp_words_for ?_
 rw [if_neg (by lia)]
 repeat o_fieldsN
 exact h _ (by k_caughtNB) (by k_caughtB)
structure Spec where
 form:Nat
 one:Nat
 n:Nat
 deriving DecidableEq
noncomputable def Spec.v (s:Spec):V:=.tup [.int s.form,.int s.one,.int s.n]
structure Th where
 ser:Nat
 kind:Int
 specs:List Spec
 age:Nat
 addr:Nat
 tid:Nat
 sid:Nat
 pid:Nat
 deriving DecidableEq
noncomputable def Th.size (t:Th):Nat:=2+t.specs.length
structure Hid where
 hp:Nat
 tl:Nat
 at_:Nat
 cd:Nat
 fin:Nat
 rdy:Nat
structure Hn where
 limit:Int
 fresh:Int
 young:Int
 moved:Int
 made:Nat
noncomputable def endOf (ts:List Th):Nat:=16+(ts.map Th.size).sum
noncomputable def Th.obj (t:Th):O:=.inst 0 [.int t.addr,.int t.kind,.obj t.sid,.int t.age,.int t.size,.int t.ser]
noncomputable def hpObj (h:Hid) (f:Hn) (top:Nat):O:=.inst 1 [.obj h.tl,.obj h.at_,.int top,.int f.limit,.obj h.cd,.int 3,.int f.fresh,.int f.young,.obj h.fin,.obj h.rdy,.int f.moved,.int f.made]
noncomputable def atOf (ts:List Th):List (Int×V):=ts.map fun t=>((t.addr:Int),.obj t.tid)
structure HB (h:Hid) (ts:List Th) (f:Hn) (T:TH):Prop where
 hp:T[h.hp]?=some (.hp,hpObj h f (endOf ts))
 tl:T[h.tl]?=some (.tl,.list (ts.map fun t=>.obj t.tid))
 at_:T[h.at_]?=some (.at_,.di (atOf ts))
 cd:T[h.cd]?=some (.cd,.di [])
 fin:T[h.fin]?=some (.fin,.list [])
 rdy:T[h.rdy]?=some (.real,.list [])
 th:∀ t∈ts,T[t.tid]?=some (.th,t.obj)
noncomputable def Apart (ts:List Th):Prop:=ts.Pairwise fun a b=>a.addr+a.size≤b.addr
theorem Th.size_pos (t:Th):0<t.size:=by unfold Th.size;lia
theorem dget_at {ts:List Th} (ha:Apart ts) {t:Th} (ht:t∈ts):dget (atOf ts) (t.addr:Int)=some (.obj t.tid):=by
 induction ts with
 | nil=>cases ht
 | cons a r ih =>
  unfold Apart at ha
  rw [List.pairwise_cons] at ha
  show dget (((a.addr:Int),V.obj a.tid)::atOf r) _=_
  unfold dget
  rcases List.mem_cons.mp ht with rfl|ht
  ·simp
  ·have:=ha.1 t ht
   have:=a.size_pos
   rw [if_neg (by simp;lia)]
   exact ih ha.2 ht
theorem dget_off {ts:List Th} {x:Int} (h:∀ t∈ts,(t.addr:Int)≠x):dget (atOf ts) x=none:=by
 induction ts with
 | nil=>rfl
 | cons a r ih =>
  show dget (((a.addr:Int),V.obj a.tid)::atOf r) _=_
  unfold dget
  rw [if_neg (by simpa using h a (.head _))]
  exact ih fun t ht=>h t (.tail _ ht)
theorem apart_lt {ts:List Th} (ha:Apart ts) {i j:Nat} {a b:Th} (hi:ts[i]?=some a) (hj:ts[j]?=some b) (h:i<j):a.addr+a.size≤b.addr:=by
 obtain⟨p,rfl⟩:=List.getElem?_eq_some_iff.mp hi
 obtain⟨q,rfl⟩:=List.getElem?_eq_some_iff.mp hj
 exact List.pairwise_iff_getElem.mp ha i j p q h
theorem off_inside {ts:List Th} (ha:Apart ts) {t:Th} (ht:t∈ts) {d:Nat} (hd:d<t.size) (h0:0<d):∀ u∈ts,(u.addr:Int)≠((t.addr+d:Nat):Int):=by
 intro u hu e
 obtain⟨i,hi⟩:=List.getElem?_of_mem ht
 obtain⟨j,hj⟩:=List.getElem?_of_mem hu
 have e:u.addr=t.addr+d:=by exact_mod_cast e
 rcases Nat.lt_trichotomy i j with h|h|h
 ·have:=apart_lt ha hi hj h;lia
 ·subst h;rw [hi] at hj;cases hj;lia
 ·have:=apart_lt ha hj hi h;have:=u.size_pos;lia
structure FindI (ts:List Th) (w lo hi:Nat):Prop where
 le:lo≤hi
 hl:hi≤ts.length
 lw:∀ i u,i<lo→ts[i]?=some u→u.addr≤w
 hg:∀ i u,hi≤i→ts[i]?=some u→w<u.addr
section
variable {ts:List Th} {w lo hi m j d:Nat} {u t:Th}
theorem half {a b:Nat}:Int.fdiv ((a:Int)+(b:Int)) 2=(((a+b)/2:Nat):Int):=(Int.ofNat_fdiv (a+b) 2).symm
theorem mid (h:lo<hi):lo≤(lo+hi)/2∧(lo+hi)/2<hi:=by omega
theorem FindI.up (F:FindI ts w lo hi) (ha:Apart ts) (hm:m<hi) (hu:ts[m]?=some u) (h:u.addr≤w):FindI ts w (m+1) hi :=
 ⟨hm,F.hl,fun i v hi' hv=>(Nat.lt_or_eq_of_le (Nat.lt_succ_iff.mp hi')).elim (fun q=>Nat.le_trans (Nat.le_trans (Nat.le_add_right _ _) (apart_lt ha hv hu q)) h) fun q=>by subst q;exact Option.some.inj (hu.symm.trans hv)▸h,F.hg⟩
theorem FindI.dn (F:FindI ts w lo hi) (ha:Apart ts) (hm:lo≤m) (hm':m<hi) (hu:ts[m]?=some u) (h:w<u.addr):FindI ts w lo m :=
 ⟨hm,Nat.le_trans (Nat.le_of_lt hm') F.hl,F.lw,fun i v hi' hv=>(Nat.lt_or_eq_of_le hi').elim (fun q=>Nat.lt_of_lt_of_le h (Nat.le_trans (Nat.le_add_right _ _) (apart_lt ha hu hv q))) fun q=>by subst q;exact Option.some.inj (hu.symm.trans hv)▸h⟩
theorem FindI.fin (F:FindI ts (t.addr+d) lo hi) (ha:Apart ts) (hd:d<t.size) (hj:ts[j]?=some t) (h:¬ lo<hi):lo=j+1:=by
 have e:lo=hi:=Nat.le_antisymm F.le (Nat.le_of_not_lt h)
 subst e
 refine Nat.le_antisymm (Nat.le_of_not_lt fun q=>?_) (Nat.lt_of_not_le fun q=>Nat.not_lt_of_le (Nat.le_add_right _ _) (F.hg j t q hj))
 have hl:=Nat.lt_of_lt_of_le q F.hl
 have h1:=F.lw (j+1) _ q (List.getElem?_eq_getElem hl)
 have h2:=apart_lt ha hj (List.getElem?_eq_getElem hl) (Nat.lt_succ_self j)
 exact Nat.not_lt_of_le h1 (Nat.lt_of_lt_of_le (Nat.add_lt_add_left hd _) h2)
end
theorem pred_i {j:Nat}:((j+1:Nat):Int)-1=(j:Int):=by lia
set_option maxHeartbeats 1000000 in
theorem sp_find {n:Nat} {h:Hid} {ts:List Th} {f:Hn} {T:TH} {t:Th} {d:Nat} {word:Int} {Q:V→TH→Prop} (hb:HB h ts f T) (ha:Apart ts) (ht:t∈ts) (hd:d<t.size) (hw:word=((t.addr+d:Nat):Int)) (hlim:ts.length≤50000)
  (k:Q (.obj t.tid) T):CallY (CN (n+1)) 6 [.obj h.hp,.int word] T Q:=by
 subst hw
 have b1:=hb.hp
 have b2:=hb.tl
 have b3:=hb.at_
 refine call_fn (fd:=fd_find_thing) (by rfl) (by rfl) ?_
 refine (?_:SV _ [some (.obj h.hp),some (.int (t.addr+d:Nat)),none,none,none,none,none] _ _ _)
 unfold hpObj at b1
 k_ownIn
 by_cases hd0:d=0
 ·subst hd0
  rw [show ((t.addr+0:Nat):Int)=(t.addr:Int) from rfl,dget_at ha ht]
  k_ownIn
  exact k
 ·rw [dget_off (off_inside ha ht hd (Nat.pos_of_ne_zero hd0))]
  k_ownIn
  refine LenY.map b2 hlim ?_
  k_ownIn
  obtain⟨j,hj⟩:=List.getElem?_of_mem ht
  refine HandS.intro (WhileY.gh (G:=Nat×Nat×Option V) (fun g=>[some (.obj h.hp),some (.int (t.addr+d:Nat)),some .none,some (.int (g.1:Nat)),some (.int (g.2.1:Nat)),g.2.2,none]) (fun g=>g.2.1-g.1) (fun g T'=>T'=T∧FindI ts (t.addr+d) g.1 g.2.1) (0,ts.length,none) ⟨rfl,Nat.zero_le _,Nat.le_refl _,fun i u h=>absurd h (Nat.not_lt_zero _),fun i u h h'=>some_ne (h'.symm.trans (List.getElem?_eq_none h))⟩ ?_)
  intro Q' g_;refine pp3 g_ fun lo hi x=>?_;rintro T' ⟨rfl,F⟩ q _
  k_ownIn
  refine⟨fun hb'=>?_,fun hb'=>?_⟩
  ·obtain⟨m1,m2⟩:=mid (Int.ofNat_lt.mp (of_decide_eq_true hb'))
   have hl:=Nat.lt_of_lt_of_le m2 F.hl
   have hu:=List.getElem?_eq_getElem hl
   have hth:=hb.th _ (List.mem_of_getElem? hu)
   unfold Th.obj at hth
   generalize ts[(lo+hi)/2]=u at hu hth
   clear hb'
   repeat o_fieldsN
   rw [half]
   repeat o_fieldsN
   refine IdxY.list b2 (at_nat (v:=.obj u.tid) (by rw [List.getElem?_map,hu];rfl) (Nat.lt_of_lt_of_le hl (Nat.le_trans hlim (Nat.le_of_ble_eq_true rfl)))) ?_
   repeat o_fieldsN
   refine⟨fun hb'=>?_,fun hb'=>?_⟩
   ·k_ownIn
    exact q ((lo+hi)/2+1,hi,_) T' (Nat.sub_lt_sub_left (Nat.lt_of_le_of_lt m1 m2) (Nat.lt_succ_of_le m1)) ⟨rfl,F.up ha m2 hu (Int.ofNat_le.mp (of_decide_eq_true hb'))⟩
   ·k_ownIn
    exact q (lo,(lo+hi)/2,_) T' (Nat.sub_lt_sub_right m1 m2) ⟨rfl,F.dn ha m1 m2 hu (Nat.lt_of_not_le fun h=>of_decide_eq_false hb' (Int.ofNat_le.mpr h))⟩
  ·have e:=F.fin ha hd hj fun h=>of_decide_eq_false hb' (Int.ofNat_lt.mpr h)
   subst e
   have hth:=hb.th t ht
   unfold Th.obj at hth
   clear F hb' b3
   k_ownIn
   rw [pred_i]
   refine IdxY.list b2 (at_nat (v:=.obj t.tid) (by rw [List.getElem?_map,hj];rfl) (Nat.lt_of_lt_of_le (List.getElem?_eq_some_iff.mp hj).1 (Nat.le_trans hlim (Nat.le_of_ble_eq_true rfl)))) ?_
   k_ownIn
   exact k
set_option genInjectivity false
noncomputable def Packed:Nat→List Th→Prop
 | _,[]=>True
 | a,t::r=>t.addr=a∧Packed (a+t.size) r
theorem Packed.mem:∀ {ts:List Th} {a:Nat},Packed a ts→∀ t∈ts,a≤t.addr∧t.addr+t.size≤a+(ts.map Th.size).sum
 | [],_,_,_,h=>nomatch h
 | u::r,a,p,t,h=>by
  rw [List.map_cons,List.sum_cons]
  rcases List.mem_cons.mp h with rfl|h
  ·have:=p.1;lia
  ·have:=p.2.mem t h;lia
theorem Packed.apart:∀ {ts:List Th} {a:Nat},Packed a ts→Apart ts
 | [],_,_=>List.Pairwise.nil
 | u::r,a,p=>List.pairwise_cons.mpr ⟨fun t h=>by have:=p.2.mem t h;have:=p.1;lia,p.2.apart⟩
theorem Packed.snoc:∀ {ts:List Th} {a:Nat} {t:Th},Packed a ts→t.addr=a+(ts.map Th.size).sum→Packed a (ts++[t])
 | [],_,_,_,e=>⟨by simpa using e,trivial⟩
 | u::r,a,t,p,e=>⟨p.1,p.2.snoc (by rw [e,List.map_cons,List.sum_cons];lia)⟩
theorem Packed.lt_end {ts:List Th} (p:Packed 16 ts):∀ t∈ts,t.addr<endOf ts:=fun t h=>by
 have:=p.mem t h;have:=t.size_pos;unfold endOf;omega
theorem dput_new {α:Type} [DecidableEq α]:∀ {l:List (α×V)} {k:α} {v:V},(∀ p∈l,p.1≠k)→dput l k v=l++[(k,v)]
 | [],_,_,_=>rfl
 | p::r,k,v,h=>by
  unfold dput
  rw [if_neg (h p (.head _)),dput_new fun q hq=>h q (.tail _ hq)]
  rfl
theorem endOf_snoc {ts:List Th} {t:Th}:endOf (ts++[t])=endOf ts+t.size:=by
 unfold endOf;rw [List.map_append,List.sum_append];simp;lia
theorem sp_alloc {n:Nat} {h:Hid} {ts:List Th} {f:Hn} {T:TH} {kd:Int} {sl pid:Nat} {l:List V} {specs:List Spec} {Q:V→TH→Prop} (hb:HB h ts f T) (hp:Packed 16 ts) (hlim:ts.length≤50000)
  (hs:T[sl]?=some (.slots,.list l)) (hl:0<l.length∧l.length≤limit) (he:specs.length=l.length)
  (k:∀ t T',T[t]?=none→HB h (ts++[⟨f.made+1,kd,specs,0,endOf ts,t,sl,pid⟩]) {f with fresh:=f.fresh+(2+l.length:Nat),made:=f.made+1} T'→Chg (ksX [.hp,.tl,.at_]) T T'→Q (.obj t) T'):CallY (CN (n+3)) 3 [.obj h.hp,.int kd,.obj sl] T Q:=by
 obtain⟨b1,b2,b3,b4,b5,b6,b7⟩:=hb
 refine call_fn (fd:=fd_heap_alloc) (by rfl) (by rfl) ?_
 show SV _ [some (.obj h.hp),some (.int kd),some (.obj sl),none] _ _ _
 unfold hpObj at b1
 repeat o_fieldsN
 refine AnyK.mk .th ?_
 repeat o_fieldsN
 refine sp_Thing (l:=l) (kk:=.slots) (by k_caughtNB) (by k_caughtNB) hl (by decide) fun T₁ h₁ c₁=>⟨rfl,?_⟩
 repeat o_fieldsN
 refine⟨by simp;unfold limit;lia,?_⟩
 repeat o_fieldsN
 refine IdxPut.di (by k_caughtNB) (by simp [atOf];unfold limit;lia) ?_
 rw [dput_new fun p hp'=>by
  obtain⟨u,hu,rfl⟩:=List.mem_map.mp hp'
  have:=hp.lt_end u hu
  simp;lia]
 repeat o_fieldsN
 refine k _ _ (by assumption) ?_ ?_
 ·refine⟨?_,?_,?_,?_,?_,?_,fun u hu=>?_⟩
  ·rw [endOf_snoc]
   refine Eq.trans (by k_caughtNB) ?_
   simp [hpObj,Th.size,he,putAt,putO]
  ·refine Eq.trans (by k_caughtNB) ?_
   simp
  ·refine Eq.trans (by k_caughtNB) ?_
   simp [atOf]
  ·k_caughtNB
  ·k_caughtNB
  ·k_caughtNB
  ·rcases List.mem_append.mp hu with hu|hu
   ·have h1:=b7 u hu
    have hne:=ne_none h1 (by assumption)
    k_caughtNB
   ·rw [List.mem_singleton] at hu
    subst hu
    refine Eq.trans (by k_caughtNB) ?_
    simp [Th.obj,Th.size,he,putAt,putO]
 ·k_caughtB
set_option genInjectivity false
noncomputable def words:Nat→Str
 | 0=>Str.ofString ""
 | 1=>Str.ofString "a"
 | _=>Str.ofString "ab"
noncomputable def refV (a:Nat):V:=.tup [.int 4,.int a]
noncomputable def pairV (n a:Nat):V:=.tup [.int 5,.int 18,.tup [.tup [.int 1,.int n],.tup [.int 4,.int a]]]
noncomputable def outerV (n a:Nat):V:=.tup [.int 5,.int 19,.tup [pairV n a,.tup [.int 1,.int 16]]]
noncomputable def placeV (n a:Nat):V:=.tup [.int 6,.tup [.int 3,.int ((a:Int)+2+n),.tup [.int n]]]
noncomputable def Spec.valA (s:Spec) (a:Nat):V:=match s.form with
 | 0=>refV a
 | 1=>placeV s.n a
 | 2=>pairV s.n a
 | 3=>outerV s.n a
 | 4=>.tup [.int 1,.int (16+s.n)]
 | 5=>.tup [.int 6,.tup [.int 1,.int 1,.int s.n,.tup []]]
 | 6=>.tup [.int 7,.tup [.int 16,.int (1+s.n),.tup []]]
 | _=>.tup [.int 8,.str (words s.n)]
noncomputable def oneL (a:Nat):List V:=if a=0 then [] else [.int a]
theorem sp_refs_ref {n:Nat} {a:Nat} {T:TH} {Q:V→TH→Prop} (k:∀ i T',T[i]?=none→T'[i]?=some (.tmp 190,.list (oneL a))→Chg noX T T'→Q (.obj i) T'):CallY (CN (n+1)) 19 [refV a] T Q:=by
 refine call_fn (fd:=fd_refs_in) (by rfl) (by rfl) ?_
 show SV _ [some (.tup [.int 4,.int a]),none,none,none,none] _ _ _
 unfold oneL at k
 by_cases ha:a=0
 ·rw [if_pos ha] at k
  subst ha
  k_ownIn
  refine AnyK.mk (.tmp 190) ?_
  k_ownIn
  exact k _ _ (by assumption) (by assumption) (by assumption)
 ·rw [if_neg ha] at k
  k_ownIn
  refine AnyK.mk (.tmp 190) ?_
  k_ownIn
  exact k _ _ (by assumption) (by assumption) (by assumption)
theorem sp_refs_no {n:Nat} {c:Int} {l:List V} {T:TH} {Q:V→TH→Prop} (hc:c≠4∧c≠5) (k:∀ i T',T[i]?=none→T'[i]?=some (.tmp 190,.list [])→Chg noX T T'→Q (.obj i) T'):CallY (CN (n+1)) 19 [.tup (.int c::l)] T Q:=by
 refine call_fn (fd:=fd_refs_in) (by rfl) (by rfl) ?_
 show SV _ [some (.tup (.int c::l)),none,none,none,none] _ _ _
 have:=hc.1
 have:=hc.2
 k_ownIn
 refine AnyK.mk (.tmp 190) ?_
 k_ownIn
 exact k _ _ (by assumption) (by assumption) (by assumption)
inductive It where
 | w (m:Nat)
 | r (a:Nat)
 | s (k:Nat) (x y:It)
noncomputable def It.v:It→V
 | .w m=>.tup [.int 1,.int m]
 | .r a=>.tup [.int 4,.int a]
 | .s k x y=>.tup [.int 5,.int k,.tup [x.v,y.v]]
noncomputable def It.refs:It→List V
 | .w _=>[]
 | .r a=>oneL a
 | .s _ x y=>x.refs++y.refs
noncomputable def It.size:It→Nat
 | .s _ x y=>x.size+y.size+1
 | _=>1
noncomputable def sizeL (l:List It):Nat:=(l.map It.size).sum
theorem It.pos:∀ i:It,1≤i.size
 | .w _=>Nat.le_refl 1
 | .r _=>Nat.le_refl 1
 | .s _ _ _=>Nat.le_add_left _ _
theorem It.few:∀ i:It,i.refs.length≤i.size
 | .w _=>Nat.zero_le _
 | .r a=>by
  show (oneL a).length≤1
  unfold oneL
  by_cases h:a=0
  ·rw [if_pos h];exact Nat.zero_le _
  ·rw [if_neg h];exact Nat.le_refl 1
 | .s _ x y=>by
  show (x.refs++y.refs).length≤x.size+y.size+1
  rw [List.length_append];exact Nat.le_succ_of_le (Nat.add_le_add x.few y.few)
theorem sizeL_len:∀ l:List It,l.length≤sizeL l
 | []=>Nat.le_refl 0
 | i::l=>Nat.le_trans (Nat.add_le_add (sizeL_len l) i.pos) (Nat.le_of_eq (Nat.add_comm ..))
theorem sizeL_snoc {l:List It} {i:It}:sizeL (l++[i])=sizeL l+i.size:=by
 unfold sizeL;rw [List.map_append,List.sum_append];rfl
noncomputable def refsL (l:List It):List V:=l.reverse.flatMap It.refs
theorem refsL_snoc {l:List It} {i:It}:refsL (l++[i])=i.refs++refsL l:=by
 unfold refsL;rw [List.reverse_append];rfl
structure ItI (i:It) (s o:Nat) (l:List It) (out:List V) (T₀ T:TH):Prop where
 st:T[s]?=some (.tmp 191,.list (l.map It.v))
 ot:T[o]?=some (.tmp 190,.list out)
 e:out++refsL l=i.refs
 n:sizeL l≤i.size
 c:Chg noX T₀ T
set_option maxHeartbeats 4000000 in
theorem sp_refs_s {n:Nat} {k:Nat} {x y:It} {T:TH} {Q:V→TH→Prop} (hb:(It.s k x y).size≤100) (q:∀ i T',T[i]?=none→T'[i]?=some (.tmp 190,.list (It.s k x y).refs)→Chg noX T T'→Q (.obj i) T'):CallY (CN (n+1)) 19 [(It.s k x y).v] T Q:=by
 refine call_fn (fd:=fd_refs_in) (by rfl) (by rfl) ?_
 refine (?_:SV _ [some (.tup [.int 5,.int k,.tup [x.v,y.v]]),none,none,none,none] _ _ _)
 have hr:(It.s k x y).refs.length≤100:=Nat.le_trans (It.few _) hb
 k_ownIn
 refine AnyK.mk (.tmp 190) (NewY.intro fun o T₁ hn₁ h₁ c₁=>?_)
 k_ownIn
 refine AnyK.mk (.tmp 191) (NewY.intro fun s T₂ hn₂ h₂ c₂=>?_)
 have hns:T[s]?=none:=none_back hn₂ (c₁.weaken fun _ _ q=>q.elim)
 k_ownIn
 have J:ItI (.s k x y) s o [.s k x y] [] T T₂:=⟨h₂,c₂.keep h₁,(List.append_nil _),Nat.le_refl _,c₁.tr c₂⟩
 clear h₁ h₂ c₁ c₂ hn₂
 generalize It.s k x y=root at *
 refine HandS.intro (WhileY.gh (G:=List It×List V×Option V×Option V) (fun g=>[some (.tup [.int 5,.int k,.tup [x.v,y.v]]),some (.obj o),some (.obj s),g.2.2.1,g.2.2.2]) (fun g=>sizeL g.1) (fun g T'=>ItI root s o g.1 g.2.1 T T') ([root],[],none,none) J ?_)
 clear J
 intro Q' g_;refine pp4 g_ fun l out u w=>?_;rintro T' J hq _
 have hst:=J.st
 have hll:l.length≤100:=Nat.le_trans (sizeL_len l) (Nat.le_trans J.n hb)
 k_ownIn
 refine LenY.map hst hll ?_
 k_ownIn
 refine⟨fun hd=>?_,fun hd=>?_⟩
 ·have h0:l.length≠0:=fun e=>by rw [e] at hd;cases hd
  obtain⟨ls,i,hls,hwl⟩:=pop_len h0
  obtain⟨p1,p2⟩:=pop_at (f:=It.v) hls
  clear hd h0 hwl
  have e:out++(i.refs++refsL ls)=root.refs:=by rw [←refsL_snoc,←hls];exact J.e
  have hn:sizeL ls+i.size≤100:=by rw [←sizeL_snoc,←hls];exact Nat.le_trans J.n hb
  have hn':sizeL ls+i.size≤root.size:=by rw [←sizeL_snoc,←hls];exact J.n
  have hlt:∀ m,m<i.size→sizeL ls+m<sizeL l:=fun m hm=>by rw [hls,sizeL_snoc];exact Nat.add_lt_add_left hm _
  have hlen:ls.length≤100:=Nat.le_trans (sizeL_len ls) (Nat.le_trans (Nat.le_add_right _ _) hn)
  have hol:out.length≤100:=by
   have:=congrArg List.length e
   rw [List.length_append] at this
   exact Nat.le_trans (Nat.le_add_right _ _) (this▸hr)
  k_ownIn
  refine⟨lmLe hll,GetY.mk p1 ?_⟩
  rw [p2]
  refine PutY.intro fun T₁ h₁ c₁=>?_
  have ho₁:=c₁.otherK J.ot h₁ (by decide)
  have cc:=c₁.fresh J.c hns
  clear p1 p2 J hst hls hll
  cases i with
  | w m =>
   k_ownIn
   exact hq (ls,out,_,_) T₁ (hlt 0 (Nat.zero_lt_succ 0)) ⟨h₁,ho₁,e,Nat.le_of_succ_le hn',cc⟩
  | r a =>
   by_cases ha:a=0
   ·subst ha
    k_ownIn
    exact hq (ls,out,_,_) T₁ (hlt 0 (Nat.zero_lt_succ 0)) ⟨h₁,ho₁,e,Nat.le_of_succ_le hn',cc⟩
   ·k_ownIn
    refine⟨limL' hol,PutY.intro fun T₂ h₂ c₂=>?_⟩
    k_ownIn
    refine hq (ls,out++[.int a],_,_) T₂ (hlt 0 (Nat.zero_lt_succ 0)) ⟨c₂.otherK h₁ h₂ (by decide),h₂,?_,Nat.le_of_succ_le hn',c₂.fresh cc hn₁⟩
    rw [←e,List.append_assoc]
    exact congrArg (out++·) (congrArg (·++refsL ls) (if_neg ha).symm)
  | s k x y =>
   k_ownIn
   refine HandS.intro (WhileY.unroll 4 ?_)
   k_ownIn
   refine⟨limL' (mpL hlen),PutY.intro fun T₂ h₂ c₂=>?_⟩
   k_ownIn
   refine⟨limL' (apL (mpL hlen)),PutY.tr c₂ fun T₃ h₃ c₃=>?_⟩
   k_ownIn
   refine hq (ls++[y]++[x],out,_,_) T₃ ?_ ⟨?_,c₃.otherK ho₁ h₃ (by decide),?_,?_,c₃.fresh cc hns⟩
   ·rw [sizeL_snoc,sizeL_snoc,Nat.add_assoc];exact hlt (y.size+x.size) (Nat.lt_succ_of_le (Nat.le_of_eq (Nat.add_comm ..)))
   ·rw [List.map_append,List.map_append];exact h₃
   ·rw [refsL_snoc,refsL_snoc,←List.append_assoc x.refs];exact e
   ·rw [sizeL_snoc,sizeL_snoc,Nat.add_assoc,Nat.add_comm y.size];exact Nat.le_of_succ_le hn'
 ·have h0:l=[]:=List.eq_nil_of_length_eq_zero (Nat.eq_zero_of_not_pos fun h=>of_decide_eq_false hd (Int.ofNat_lt.mpr h))
  subst h0
  k_ownIn
  exact q o T' hn₁ (J.e▸(List.append_nil out).symm▸J.ot) J.c
theorem sp_refs_pair {n:Nat} {m a:Nat} {T:TH} {Q:V→TH→Prop} (k:∀ i T',T[i]?=none→T'[i]?=some (.tmp 190,.list (oneL a))→Chg noX T T'→Q (.obj i) T'):CallY (CN (n+1)) 19 [pairV m a] T Q :=
 sp_refs_s (k:=18) (x:=.w m) (y:=.r a) (Nat.le_of_ble_eq_true rfl) k
theorem sp_refs_outer {n:Nat} {m a:Nat} {T:TH} {Q:V→TH→Prop} (k:∀ i T',T[i]?=none→T'[i]?=some (.tmp 190,.list (oneL a))→Chg noX T T'→Q (.obj i) T'):CallY (CN (n+1)) 19 [outerV m a] T Q :=
 sp_refs_s (k:=19) (x:=.s 18 (.w m) (.r a)) (y:=.w 16) (Nat.le_of_ble_eq_true rfl) fun i T' h1 h2=>k i T' h1 ((List.append_nil (oneL a))▸h2)
set_option genInjectivity false
theorem words_le (n:Nat):(words n).length≤1000:=by
 unfold words;split<;>decide
noncomputable def Spec.wordsA (s:Spec) (a:Nat):List V:=match s.form with
 | 0=>[.int a]
 | 1=>[.int ((a:Int)+2+s.n)]
 | 2=>oneL a
 | 3=>oneL a
 | _=>[]
noncomputable def Spec.refsA (s:Spec) (a:Nat):List V:=match s.form with
 | 0=>oneL a
 | 2=>oneL a
 | 3=>oneL a
 | _=>[]
theorem sp_refs {n:Nat} {s:Spec} {a:Nat} {T:TH} {Q:V→TH→Prop} (k:∀ i T',T[i]?=none→T'[i]?=some (.tmp 190,.list (s.refsA a))→Chg noX T T'→Q (.obj i) T'):CallY (CN (n+1)) 19 [s.valA a] T Q:=by
 obtain⟨form,one,m⟩:=s
 unfold Spec.refsA at k
 unfold Spec.valA
 rcases form with _|_|_|_|_|_|_|form
 ·exact sp_refs_ref k
 ·exact sp_refs_no (by decide) k
 ·exact sp_refs_pair k
 ·exact sp_refs_outer k
 ·exact sp_refs_no (by decide) k
 ·exact sp_refs_no (by decide) k
 ·exact sp_refs_no (by decide) k
 ·exact sp_refs_no (by decide) k
theorem sp_words {n:Nat} {s:Spec} {a:Nat} {T:TH} {Q:V→TH→Prop} (k:∀ i kk T',T[i]?=none→T'[i]?=some (kk,.list (s.wordsA a))→Chg noX T T'→Q (.obj i) T'):CallY (CN (n+2)) 23 [s.valA a] T Q:=by
 refine call_fn (fd:=fd_words_of) (by rfl) (by rfl) ?_
 show SV _ [some (s.valA a),none] _ _ _
 obtain⟨form,one,m⟩:=s
 unfold Spec.wordsA at k
 rcases form with _|_|_|_|_|_|_|form
 ·show SV _ [some (refV a),none] _ _ _
  unfold refV
  k_ownIn
  refine AnyK.mk (.tmp 230) ?_
  k_ownIn
  exact k _ _ _ (by assumption) (by assumption) (by assumption)
 ·show SV _ [some (placeV m a),none] _ _ _
  unfold placeV
  k_ownIn
  refine AnyK.mk (.tmp 230) ?_
  k_ownIn
  exact k _ _ _ (by assumption) (by assumption) (by assumption)
 ·show SV _ [some (pairV m a),none] _ _ _
  unfold pairV
  k_ownIn
  exact sp_refs_pair fun i T' h1 h2 h3=>k i _ T' h1 h2 h3
 ·show SV _ [some (outerV m a),none] _ _ _
  unfold outerV
  k_ownIn
  exact sp_refs_outer fun i T' h1 h2 h3=>k i _ T' h1 h2 h3
 ·show SV _ [some (.tup [.int 1,.int (16+m)]),none] _ _ _
  k_ownIn
  exact sp_refs_no (by decide) fun i T' h1 h2 h3=>k i _ T' h1 h2 h3
 ·show SV _ [some (.tup [.int 6,.tup [.int 1,.int 1,.int m,.tup []]]),none] _ _ _
  k_ownIn
  refine AnyK.mk (.tmp 230) ?_
  k_ownIn
  exact k _ _ _ (by assumption) (by assumption) (by assumption)
 ·show SV _ [some (.tup [.int 7,.tup [.int 16,.int (1+m),.tup []]]),none] _ _ _
  k_ownIn
  exact sp_refs_no (by decide) fun i T' h1 h2 h3=>k i _ T' h1 h2 h3
 ·show SV _ [some (.tup [.int 8,.str (words m)]),none] _ _ _
  k_ownIn
  exact sp_refs_no (by decide) fun i T' h1 h2 h3=>k i _ T' h1 h2 h3
noncomputable def Spec.val (wh:Nat→Nat) (s:Spec):V:=s.valA (if 0<s.one then wh s.one else 0)
noncomputable def whOf (ts:List Th) (s:Nat):Nat:=((ts.find? fun t=>t.ser==s).map Th.addr).getD 0
structure WId where
 w:Nat
 scr:Nat
 m:Nat
 wt:Nat
 ag:Nat
 wh:Nat
 fl:Nat
 tx:Nat
 ce:Nat
structure WN where
 at_:Nat
 made:Nat
 top:Nat
 count:Nat
noncomputable def kindsV:V:=.tup [.int 16,.int 17]
noncomputable def WId.obj (i:WId) (f:WN):O:=.wd [.obj i.scr,.int f.at_,.obj i.m,.int f.made,.obj i.wt,.obj i.ag,.obj i.wh,.int f.top,.int f.count,.obj i.fl,.obj i.tx,.obj i.ce,kindsV,.int 18,.int 19]
noncomputable def whL (ts:List Th):List (Int×V):=ts.map fun t=>((t.ser:Int),.int t.addr)
theorem IdxY.wh {T:TH} {o:Nat} {k:K} {ts:List Th} {s:Nat} {Q:V→Prop} (e:T[o]?=some (k,.di (whL ts))) (hs:∃ t∈ts,t.ser=s) (h:Q (.int (whOf ts s:Nat))):IdxY T Q (.obj o) (.int s):=by
 refine .di e (v:=.int (whOf ts s:Nat)) ?_ h
 clear e h
 induction ts with
 | nil=>obtain⟨t,h,_⟩:=hs;cases h
 | cons a r ih =>
  show dget (((a.ser:Int),V.int (a.addr:Int))::whL r) _=_
  unfold dget whOf
  rw [List.find?_cons]
  by_cases q:a.ser=s
  ·subst q;simp
  ·have q':(a.ser==s)=false:=by simpa using q
   rw [if_neg (by simp;lia),q']
   refine ih ?_
   obtain⟨t,ht,e⟩:=hs
   rcases List.mem_cons.mp ht with rfl|ht
   ·exact absurd e q
   ·exact⟨t,ht,e⟩
structure Spec.Ok (s:Spec) (ts:List Th):Prop where
 form:s.form≤7
 n:s.n≤2
 one:0<s.one→s.form<4∧∃ t∈ts,t.ser=s.one∧(s.form=1→s.n<t.specs.length)
 place:s.form=1→0<s.one
set_option maxHeartbeats 1000000 in
theorem sp_value {n:Nat} {i:WId} {f:WN} {ts:List Th} {s:Spec} {T:TH} {Q:V→TH→Prop} (hw:T[i.w]?=some (.w,i.obj f)) (hwh:T[i.wh]?=some (.wh,.di (whL ts))) (hs:s.Ok ts) (k:Q (s.val (whOf ts)) T):CallY (CN (n+1)) 70 [.obj i.w,s.v] T Q:=by
 refine call_fn (fd:=fd_law_value) (by rfl) (by rfl) ?_
 show SV _ [some (.obj i.w),some (.tup [.int s.form,.int s.one,.int s.n]),none,none,none,none,none] _ _ _
 unfold WId.obj kindsV at hw
 have fin:∀ a:Nat,Q (s.valA a) T→SV (CN n) [some (.obj i.w),some (.tup [.int s.form,.int s.one,.int s.n]),some (.int s.form),some (.int s.one),some (.int s.n),some (.int a),none] (fd_law_value.body.drop 3) T fun r T=>Q (r.1.getD .none) T:=by
  intro a k
  obtain⟨form,one,m⟩:=s
  have hf:form≤7:=hs.form
  have hm:m≤2:=hs.n
  dsimp only [List.drop] at *
  rcases form with _|_|_|_|_|_|_|_|form
  all_goals first|lia|skip
  all_goals first|(k_ownIn;exact k)|skip
  k_ownIn
  have hw:([.str (words 0),.str (words 1),.str (words 2)]:List V)[m]?=some (.str (words m)):=by
   rcases m with _|_|_|m
   ·rfl
   ·rfl
   ·rfl
   ·lia
  refine IdxY.tupN hw (by lia) ?_
  k_ownIn
  exact k
 k_ownIn
 refine⟨fun hb=>?_,fun hb=>?_⟩<;>dsimp only [List.cons_append,List.nil_append]
 ·have h1:0<s.one:=by simp at hb;lia
  obtain⟨h2,t,ht,he,_⟩:=hs.one h1
  k_ownIn
  refine IdxY.wh hwh ⟨t,ht,he⟩ ?_
  refine fin _ ?_
  unfold Spec.val at k
  rw [if_pos h1] at k
  exact k
 ·have h1:¬ 0<s.one:=by simp at hb;lia
  unfold Spec.val at k
  rw [if_neg h1] at k
  exact fin 0 k
set_option genInjectivity false
noncomputable def marksL (ms:List Th):List (Int×V):=ms.map fun t=>((t.addr:Int),.int 1)
noncomputable def workL (ws:List Th):List V:=ws.map fun t=>.obj t.tid
theorem addr_inj {ts:List Th} (ha:Apart ts) {a b:Th} (h1:a∈ts) (h2:b∈ts) (e:a.addr=b.addr):a=b:=by
 obtain⟨i,hi⟩:=List.getElem?_of_mem h1
 obtain⟨j,hj⟩:=List.getElem?_of_mem h2
 have:=a.size_pos
 have:=b.size_pos
 rcases Nat.lt_trichotomy i j with h|h|h
 ·have:=apart_lt ha hi hj h;lia
 ·subst h;rw [hi] at hj;cases hj;rfl
 ·have:=apart_lt ha hj hi h;lia
theorem dget_marks {ts:List Th} (ha:Apart ts) {u:Th} (hu:u∈ts):∀ {ms:List Th},(∀ m∈ms,m∈ts)→(dget (marksL ms) (u.addr:Int)).isSome=decide (u∈ms)
 | [],_=>by simp [marksL,dget]
 | m::ms,h=>by
  show (dget (((m.addr:Int),V.int 1)::marksL ms) _).isSome=_
  unfold dget
  by_cases e:m.addr=u.addr
  ·have:=addr_inj ha (h m (.head _)) hu e
   subst this
   simp
  ·have ne:u≠m:=fun q=>e (by rw [q])
   rw [if_neg (by simp;lia),dget_marks ha hu fun x hx=>h x (.tail _ hx)]
   simp [ne]
noncomputable def pushT (gen:Nat) (u:Th) (p:List Th×List Th):List Th×List Th:=if gen<u.age∨u∈p.1 then p else (p.1++[u],p.2++[u])
structure MK (h:Hid) (ts:List Th) (f:Hn) (mk wk:Nat) (p:List Th×List Th) (T:TH):Prop where
 hb:HB h ts f T
 mks:T[mk]?=some (.tmp 280,.di (marksL p.1))
 wks:∃ kk,(kk=.tmp 281∨kk=.tmp 291)∧T[wk]?=some (kk,.list (workL p.2))
theorem HB.keep {h:Hid} {ts:List Th} {f:Hn} {T T':TH} {X:Nat→K→Prop} (b:HB h ts f T) (c:Chg X T T') (n:∀ i,¬ X i .hp∧¬ X i .tl∧¬ X i .at_∧¬ X i .cd∧¬ X i .fin∧¬ X i .th) (nr:¬ X h.rdy .real):HB h ts f T' :=
 ⟨c.get b.hp (n _).1,c.get b.tl (n _).2.1,c.get b.at_ (n _).2.2.1,c.get b.cd (n _).2.2.2.1,c.get b.fin (n _).2.2.2.2.1,c.get b.rdy nr,fun t ht=>c.get (b.th t ht) (n _).2.2.2.2.2⟩
theorem HB.keep0 {h:Hid} {ts:List Th} {f:Hn} {T T':TH} (b:HB h ts f T) (c:Chg noX T T'):HB h ts f T':=b.keep c (fun _=>⟨id,id,id,id,id,id⟩) id
theorem HB.off {h:Hid} {ts:List Th} {f:Hn} {T T':TH} {i:Nat} {k:K} {o:O} (b:HB h ts f T) (hi:T[i]?=some (k,o)) (hk:k∉([.hp,.tl,.at_,.cd,.fin,.th,.real]:List K)) (c:Chg (oneX i) T T'):HB h ts f T':=by
 have ne:∀ {j:Nat} {k':K} {o':O},T[j]?=some (k',o')→k'∈([.hp,.tl,.at_,.cd,.fin,.th,.real]:List K)→¬ oneX i j k':=fun hj hk' q=>by
  have q:_=i:=q
  rw [q,hi] at hj;cases hj;exact hk hk'
 exact⟨c.get b.hp (ne b.hp (by decide)),c.get b.tl (ne b.tl (by decide)),c.get b.at_ (ne b.at_ (by decide)),c.get b.cd (ne b.cd (by decide)),c.get b.fin (ne b.fin (by decide)),c.get b.rdy (ne b.rdy (by decide)),fun t ht=>c.get (b.th t ht) (ne (b.th t ht) (by decide))⟩
theorem sp_pushw {n:Nat} {h:Hid} {ts:List Th} {f:Hn} {mk wk:Nat} {p:List Th×List Th} {T:TH} {gen:Nat} {u:Th} {d:Nat} {word:Int} {Q:V→TH→Prop} (M:MK h ts f mk wk p T) (ha:Apart ts) (hlim:ts.length≤50000) (hu:u∈ts) (hd:d<u.size) (hw:word=((u.addr+d:Nat):Int)) (h0:0<u.addr)
  (hms:∀ m∈p.1,m∈ts) (hl1:p.1.length≤50000) (hl2:p.2.length≤50000) (k:∀ T',MK h ts f mk wk (pushT gen u p) T'→Chg (twoX mk wk) T T'→Q .none T'):CallY (CN (n+2)) 24 [.obj h.hp,.int word,.int gen,.obj mk,.obj wk] T Q:=by
 obtain⟨hb,hmk,kk,hkk,hwk⟩:=M
 have hth:=hb.th u hu
 refine call_fn (fd:=fd_push_word) (by rfl) (by rfl) ?_
 show SV _ [some (.obj h.hp),some (.int word),some (.int gen),some (.obj mk),some (.obj wk),none] _ _ _
 unfold Th.obj at hth
 k_ownIn
 refine sp_find hb ha hu hd hw hlim ?_
 k_ownIn
 by_cases h1:gen<u.age
 ·have e:pushT gen u p=p:=if_pos (.inl h1)
  rw [e] at k
  k_ownIn
  exact k _ ⟨hb,hmk,kk,hkk,hwk⟩ (.refl _ _)
 ·refine⟨fun _=>?_,fun hb'=>by simp at hb';lia⟩
  k_ownIn
  refine CmpY.mem_di hmk ?_
  rw [dget_marks ha hu hms]
  by_cases h2:u∈p.1
  ·have e:pushT gen u p=p:=if_pos (.inr h2)
   rw [e] at k
   rw [decide_eq_true h2]
   k_ownIn
   exact k _ ⟨hb,hmk,kk,hkk,hwk⟩ (.refl _ _)
  ·have e:pushT gen u p=(p.1++[u],p.2++[u]):=if_neg fun q=>q.elim h1 h2
   rw [e] at k
   rw [decide_eq_false h2]
   k_ownIn
   have ne:K.tmp 280≠kk:=by rcases hkk with rfl|rfl<;>decide
   have ne':kk∉([.hp,.tl,.at_,.cd,.fin,.th,.real]:List K):=by rcases hkk with rfl|rfl<;>decide
   refine IdxPut.di hmk (by simp [marksL];unfold limit;lia) ?_
   rw [dput_new fun q hq=>by
    obtain⟨m,hm,rfl⟩:=List.mem_map.mp hq
    intro e
    have e:m.addr=u.addr:=by have e:(m.addr:Int)=u.addr:=e;lia
    exact h2 (addr_inj ha (hms m hm) hu e▸hm)]
   refine PutY.intro ?_
   intro T₁ h₁ c₁
   have hwk₁:=c₁.otherK hwk h₁ (Ne.symm ne)
   have hb₁:=hb.off hmk (by decide) c₁
   k_ownIn
   refine⟨by simp [workL];unfold limit;lia,?_⟩
   refine PutY.intro ?_
   intro T₂ h₂ c₂
   have h₁':=c₂.otherK h₁ h₂ ne
   k_ownIn
   refine k _ ⟨hb₁.off hwk₁ ne' c₂,by simpa [marksL] using h₁',kk,hkk,by simpa [workL] using h₂⟩ (c₁.trans c₂ (fun _ _ _ _ q=>.inl q) fun _ _ _ _ q=>.inr q)
theorem sp_pushw0 {n:Nat} {h:Hid} {mk wk:Nat} {T:TH} {gen:Nat} {Q:V→TH→Prop} (k:Q .none T):CallY (CN (n+1)) 24 [.obj h.hp,.int (0:Nat),.int gen,.obj mk,.obj wk] T Q:=by
 refine call_fn (fd:=fd_push_word) (by rfl) (by rfl) ?_
 show SV _ [some (.obj h.hp),some (.int (0:Nat)),some (.int gen),some (.obj mk),some (.obj wk),none] _ _ _
 k_ownIn
 exact k
noncomputable def tgt (ts:List Th) (s:Spec):Option Th:=if 0<s.one then ts.find? (fun t=>t.ser==s.one) else none
noncomputable def pushS (gen:Nat) (ts:List Th) (s:Spec) (p:List Th×List Th):List Th×List Th:=match tgt ts s with
 | none=>p
 | some u=>pushT gen u p
theorem tgt_mem {ts:List Th} {s:Spec} {u:Th} (h:tgt ts s=some u):u∈ts∧0<s.one∧u.ser=s.one:=by
 unfold tgt at h
 split at h
 ·rename_i h0
  exact⟨List.mem_of_find?_eq_some h,h0,by simpa using List.find?_some h⟩
 ·cases h
noncomputable def Sers (ts:List Th):Prop:=∀ a∈ts,∀ b∈ts,a.ser=b.ser→a=b
theorem tgt_of {ts:List Th} (hs:Sers ts) {s:Spec} {t:Th} (h0:0<s.one) (ht:t∈ts) (e:t.ser=s.one):tgt ts s=some t:=by
 unfold tgt
 rw [if_pos h0]
 cases q:ts.find? (fun t=>t.ser==s.one) with
 | none =>
  have:=List.find?_eq_none.mp q t ht
  simp [e] at this
 | some u =>
  have h1:=List.mem_of_find?_eq_some q
  have h2:u.ser=s.one:=by simpa using List.find?_some q
  rw [hs u h1 t ht (h2.trans e.symm)]
theorem val_tgt {ts:List Th} {s:Spec}:s.val (whOf ts)=s.valA ((tgt ts s).elim 0 Th.addr):=by
 unfold Spec.val tgt whOf
 split
 ·cases ts.find? (fun t=>t.ser==s.one)<;>rfl
 ·rfl
theorem tgt_none {ts:List Th} {s:Spec} (hs:s.Ok ts) (h:tgt ts s=none):s.one=0:=by
 refine Nat.eq_zero_of_not_pos fun q=>?_
 obtain⟨_,t,ht,e,_⟩:=hs.one q
 unfold tgt at h
 rw [if_pos q] at h
 have:=List.find?_eq_none.mp h t ht
 simp [e] at this
theorem sp_push {n:Nat} {h:Hid} {ts:List Th} {f:Hn} {mk wk:Nat} {p:List Th×List Th} {T:TH} {gen:Nat} {s:Spec} {Q:V→TH→Prop} (M:MK h ts f mk wk p T) (hp:Packed 16 ts) (hsr:Sers ts) (hlim:ts.length≤50000) (hs:s.Ok ts)
  (hms:∀ m∈p.1,m∈ts) (hl1:p.1.length≤50000) (hl2:p.2.length≤50000) (k:∀ T',MK h ts f mk wk (pushS gen ts s p) T'→Chg (twoX mk wk) T T'→Q .none T'):CallY (CN (n+3)) 25 [.obj h.hp,s.val (whOf ts),.int gen,.obj mk,.obj wk] T Q:=by
 have ha:=hp.apart
 rw [val_tgt]
 refine call_fn (fd:=fd_push_value) (by rfl) (by rfl) ?_
 show SV _ [some (.obj h.hp),some (s.valA ((tgt ts s).elim 0 Th.addr)),some (.int gen),some (.obj mk),some (.obj wk),none] _ _ _
 k_ownIn
 refine sp_words fun i kk T₁ hn₁ h₁ c₁=>?_
 have M₁:MK h ts f mk wk p T₁:=by
  obtain⟨hb,hmk,kk',hkk,hwk⟩:=M
  exact⟨hb.keep0 c₁,c₁.keep hmk,kk',hkk,c₁.keep hwk⟩
 k_ownIn
 refine ForY.unroll 9 ?_
 have done:∀ T',MK h ts f mk wk (pushS gen ts s p) T'→Chg (twoX mk wk) T₁ T'→Q .none T':=fun T' M' c'=>k _ M' (c₁.trans c' (fun _ _ _ _ q=>q.elim) fun _ _ _ _ q=>q)
 cases ht:tgt ts s with
 | none =>
  have h1:=tgt_none hs ht
  have hp':pushS gen ts s p=p:=by unfold pushS;rw [ht]
  rw [hp'] at done
  rw [ht] at h₁
  have hcase:s.wordsA 0=[.int (0:Nat)]∨s.wordsA 0=[]:=by
   have:=hs.place
   unfold Spec.wordsA
   split
   ·exact .inl rfl
   ·rename_i q;have:=this q;lia
   ·exact .inr rfl
   ·exact .inr rfl
   ·exact .inr rfl
  dsimp only [Option.elim] at h₁ ⊢
  rcases hcase with e|e
  ·rw [e] at h₁
   refine FV.step h₁ rfl ?_
   k_ownIn
   refine sp_pushw0 ?_
   k_ownIn
   exact FV.done h₁ rfl (done _ M₁ (.refl _ _))
  ·rw [e] at h₁
   exact FV.done h₁ rfl (done _ M₁ (.refl _ _))
 | some u =>
  obtain⟨hu,h0,hus⟩:=tgt_mem ht
  have hp':pushS gen ts s p=pushT gen u p:=by unfold pushS;rw [ht]
  rw [hp'] at done
  rw [ht] at h₁
  obtain⟨hf,t,htm,hte,hpl⟩:=hs.one h0
  have htu:=hsr t htm u hu (hte.trans hus.symm)
  subst htu
  have hpos:0<t.addr:=by have:=hp.mem t hu;lia
  have hcase:∃ d:Nat,d<t.size∧s.wordsA t.addr=[.int ((t.addr+d:Nat):Int)]:=by
   have h1:oneL t.addr=[.int ((t.addr+0:Nat):Int)]:=by unfold oneL;rw [if_neg (by lia)];rfl
   unfold Spec.wordsA
   split
   ·exact⟨0,t.size_pos,rfl⟩
   ·rename_i q
    refine⟨2+s.n,by unfold Th.size;have:=hpl q;lia,?_⟩
    rw [show ((t.addr:Int)+2+s.n)=((t.addr+(2+s.n):Nat):Int) by lia]
   ·exact⟨0,t.size_pos,h1⟩
   ·exact⟨0,t.size_pos,h1⟩
   ·rename_i q1 q2 q3 q4
    have q:s.form=0∨s.form=1∨s.form=2∨s.form=3:=by lia
    exact (q.elim q1 fun q=>q.elim q2 fun q=>q.elim q3 q4).elim
  obtain⟨d,hd,e⟩:=hcase
  dsimp only [Option.elim] at h₁ ⊢
  rw [e] at h₁
  refine FV.step h₁ rfl ?_
  k_ownIn
  refine sp_pushw M₁ ha hlim hu hd rfl hpos hms hl1 hl2 fun T₂ M₂ c₂=>?_
  k_ownIn
  have hi:T₂[i]?=some (kk,.list [.int ((t.addr+d:Nat):Int)]):=c₂.get h₁ fun q=>by
   obtain⟨hb,hmk,kk',hkk,hwk⟩:=M
   rcases q with q|q
   ·rw [q,hmk] at hn₁;cases hn₁
   ·rw [q,hwk] at hn₁;cases hn₁
  exact FV.done hi rfl (done _ M₂ c₂)
set_option genInjectivity false
theorem nodup_le {α:Type} [DecidableEq α] {l ts:List α} (h:l.Nodup) (hs:∀ x∈l,x∈ts):l.length≤ts.length:=List.Nodup.length_le_of_subset h hs
noncomputable def SL (ts:List Th) (T:TH):Prop:=∀ t∈ts,T[t.sid]?=some (.slots,.list (t.specs.map (Spec.val (whOf ts))))
structure Mk1 (gen:Nat) (ts:List Th) (P:Th→Prop) (p:List Th×List Th):Prop where
 sub:∀ m∈p.1,m∈ts∧m.age≤gen∧P m
 nd:p.1.Nodup
 wsub:∀ w∈p.2,w∈p.1
 wlen:p.2.length≤p.1.length
theorem Mk1.le {gen:Nat} {ts:List Th} {P:Th→Prop} {p:List Th×List Th} (h:Mk1 gen ts P p):p.1.length≤ts.length:=nodup_le h.nd fun x hx=>(h.sub x hx).1
theorem Mk1.push {gen:Nat} {ts:List Th} {P:Th→Prop} {p:List Th×List Th} (h:Mk1 gen ts P p) {u:Th} (hu:u∈ts) (hp:P u):Mk1 gen ts P (pushT gen u p):=by
 unfold pushT
 split
 ·exact h
 ·rename_i q
  rw [not_or] at q
  refine⟨fun m hm=>?_,?_,fun w hw=>?_,?_⟩
  ·rcases List.mem_append.mp hm with hm|hm
   ·exact h.sub m hm
   ·rw [List.mem_singleton] at hm;subst hm;exact⟨hu,by lia,hp⟩
  ·rw [List.nodup_append]
   exact⟨h.nd,by simp,fun a ha b hb e=>q.2 (by rw [List.mem_singleton] at hb;rw [←hb,←e];exact ha)⟩
  ·rcases List.mem_append.mp hw with hw|hw
   ·exact List.mem_append_left _ (h.wsub w hw)
   ·exact List.mem_append_right _ hw
  ·simp only [List.length_append,List.length_singleton];have:=h.wlen;lia
theorem pushT_sub {gen:Nat} {u:Th} {p:List Th×List Th}:∀ m∈p.1,m∈(pushT gen u p).1:=by
 intro m hm;unfold pushT;split
 ·exact hm
 ·exact List.mem_append_left _ hm
theorem pushT_in {gen:Nat} {u:Th} {p:List Th×List Th}:gen<u.age∨u∈(pushT gen u p).1:=by
 unfold pushT;split
 ·rename_i q;exact q
 ·exact .inr (by simp)
theorem pushT_new {gen:Nat} {u:Th} {p:List Th×List Th}:∀ m∈(pushT gen u p).1,m∈p.1∨m∈(pushT gen u p).2:=by
 intro m hm;unfold pushT at hm ⊢;split
 ·rename_i q;rw [if_pos q] at hm;exact .inl hm
 ·rename_i q;rw [if_neg q] at hm
  rcases List.mem_append.mp hm with hm|hm
  ·exact .inl hm
  ·exact .inr (List.mem_append_right _ hm)
theorem pushT_w {gen:Nat} {u:Th} {p:List Th×List Th}:∀ m∈p.2,m∈(pushT gen u p).2:=by
 intro m hm;unfold pushT;split
 ·exact hm
 ·exact List.mem_append_left _ hm
theorem pushT_measure {gen:Nat} {u:Th} {p:List Th×List Th} {N:Nat} (h:(pushT gen u p).1.length≤N):(pushT gen u p).2.length+2*(N-(pushT gen u p).1.length)≤p.2.length+2*(N-p.1.length):=by
 unfold pushT at h ⊢;split
 ·exact Nat.le_refl _
 ·rename_i q
  rw [if_neg q] at h
  simp only [List.length_append,List.length_singleton] at h ⊢
  lia
noncomputable def ClS (gen:Nat) (ts:List Th) (ms:List Th) (s:Spec):Prop:=∀ v,tgt ts s=some v→gen<v.age∨v∈ms
theorem ClS.more {gen:Nat} {ts ms ms':List Th} {s:Spec} (h:ClS gen ts ms s) (k:∀ m∈ms,m∈ms'):ClS gen ts ms' s:=fun v e=>(h v e).imp id (k v)
noncomputable def Closed (P:Th→Prop) (ts:List Th):Prop:=∀ u v s,u∈ts→P u→s∈u.specs→tgt ts s=some v→P v
theorem pushS_all {gen:Nat} {ts:List Th} {P:Th→Prop} {p:List Th×List Th} (h:Mk1 gen ts P p) {s:Spec} (hp:∀ v,tgt ts s=some v→P v) :
  Mk1 gen ts P (pushS gen ts s p)∧(∀ m∈p.1,m∈(pushS gen ts s p).1)∧ClS gen ts (pushS gen ts s p).1 s∧(∀ m∈(pushS gen ts s p).1,m∈p.1∨m∈(pushS gen ts s p).2)∧(∀ m∈p.2,m∈(pushS gen ts s p).2) ∧
  (pushS gen ts s p).2.length+2*(ts.length-(pushS gen ts s p).1.length)≤p.2.length+2*(ts.length-p.1.length):=by
 unfold pushS ClS
 cases ht:tgt ts s with
 | none=>exact⟨h,fun _ h=>h,fun v e=>(nomatch e),fun _ h=>.inl h,fun _ h=>h,Nat.le_refl _⟩
 | some u =>
  have hm:=h.push (tgt_mem ht).1 (hp u ht)
  exact⟨hm,pushT_sub,fun v e=>by cases e;exact pushT_in,pushT_new,pushT_w,pushT_measure hm.le⟩
theorem MK.chg {h:Hid} {ts:List Th} {f:Hn} {mk wk:Nat} {p:List Th×List Th} {T T':TH} (M:MK h ts f mk wk p T) (S:SL ts T) (c:Chg (twoX mk wk) T T'):SL ts T':=fun t ht=>c.get (S t ht) fun q=>by
 obtain⟨kk,hkk,hw⟩:=M.wks
 rcases q with q|q
 ·exact ne_kind (S t ht) M.mks (by decide) q
 ·exact ne_kind (S t ht) hw (by rcases hkk with q|q<;>rw [q]<;>decide) q
noncomputable def toDo (ts:List Th) (p:List Th×List Th):Nat:=p.2.length+2*(ts.length-p.1.length)
structure DrI (h:Hid) (ts:List Th) (f:Hn) (mk wk gen:Nat) (P:Th→Prop) (p0 p:List Th×List Th) (T₀ T:TH):Prop where
 M:MK h ts f mk wk p T
 S:SL ts T
 m:Mk1 gen ts P p
 sub:∀ m∈p0.1,m∈p.1
 c:Chg (twoX mk wk) T₀ T
noncomputable def Done (gen:Nat) (ts:List Th) (p:List Th×List Th):Prop:=∀ u∈p.1,u∉p.2→∀ s∈u.specs,ClS gen ts p.1 s
section
variable {n mk wk gen:Nat} {h:Hid} {ts:List Th} {f:Hn} {p0 p p₁:List Th×List Th} {P:Th→Prop} {T₀ T:TH} {u:Th} {ws:List Th} {x y:Option V}
theorem DrI.pop {kk:K} (D:DrI h ts f mk wk gen P p0 p T₀ T) (hkk:kk=.tmp 281∨kk=.tmp 291) (hw:T[wk]?=some (kk,.list (workL p.2))) (hws:p.2=ws++[u]) {T':TH} (h':T'[wk]?=some (kk,.list (workL ws))) (c:Chg (oneX wk) T T'):DrI h ts f mk wk gen P p0 (p.1,ws) T₀ T':=by
 have c':Chg (twoX mk wk) T T':=c.weaken fun _ _ q=>.inr q
 have w1:=D.m.wsub
 have w2:=D.m.wlen
 rw [hws] at w1 w2
 rw [List.length_append] at w2
 refine⟨⟨D.M.hb.off hw (by rcases hkk with rfl|rfl<;>decide) c,c.otherK D.M.mks h' (by rcases hkk with rfl|rfl<;>decide),kk,hkk,h'⟩,D.M.chg D.S c',⟨D.m.sub,D.m.nd,fun w hw=>w1 w (List.mem_append_left _ hw),Nat.le_of_succ_le w2⟩,D.sub,D.c.tr c'⟩
set_option maxHeartbeats 1000000 in
theorem drain_for {Q:PS'} (D:DrI h ts f mk wk gen P p0 (p₁.1,ws) T₀ T) (hp:Packed 16 ts) (hsr:Sers ts) (hlim:ts.length≤30000) (hok:∀ t∈ts,∀ s∈t.specs,s.Ok ts) (hP:Closed P ts) (hut:u∈ts) (huP:P u) (hc:Done gen ts p₁) (hws:p₁.2=ws++[u])
  (k:∀ p y T',DrI h ts f mk wk gen P p0 p T₀ T'→Done gen ts p→toDo ts p<toDo ts p₁→Q (none,[some (.obj h.hp),some (.obj wk),some (.int gen),some (.obj mk),some (.obj u.tid),y]) T') :
  ForY [5] (fun ρ T Q=>SV (CN (n+3)) ρ [.expr (.call 25 [.loc 0,.loc 5,.loc 2,.loc 3,.loc 1])] T Q) Q [some (.obj h.hp),some (.obj wk),some (.int gen),some (.obj mk),some (.obj u.tid),y] T (.obj u.sid):=by
 refine ForY.split (G:=(List Th×List Th)×Option V) (fun g=>[some (.obj h.hp),some (.obj wk),some (.int gen),some (.obj mk),some (.obj u.tid),g.2]) (fun pre _ g T=>DrI h ts f mk wk gen P p0 g.1 T₀ T∧(∀ v∈g.1.1,v∉g.1.2→v≠u→∀ s∈v.specs,ClS gen ts g.1.1 s)∧(∀ s∈pre,ClS gen ts g.1.1 s)∧toDo ts g.1≤toDo ts (p₁.1,ws)) (D.S u hut) ((p₁.1,ws),y)
  ⟨D,fun v hv hv2 hvu=>hc v hv fun q=>(List.mem_append.mp (hws▸q)).elim hv2 fun q=>hvu (List.mem_singleton.mp q),fun _ h=>(nomatch h),Nat.le_refl _⟩ ?_ ?_
 ·rintro Q' pre s post ⟨p,y⟩ T₁ e ⟨D,j1,j2,j3⟩ _ q _
  have hsm:s∈u.specs:=e▸List.mem_append_right _ (.head _)
  have hl:=Nat.le_trans D.m.le hlim
  k_ownIn
  refine sp_push D.M hp hsr (Nat.le_trans hlim (Nat.le_of_ble_eq_true rfl)) (hok u hut s hsm) (fun m hm=>(D.m.sub m hm).1) (Nat.le_trans hl (Nat.le_of_ble_eq_true rfl)) (Nat.le_trans D.m.wlen (Nat.le_trans hl (Nat.le_of_ble_eq_true rfl))) fun T₂ M₂ c₂=>?_
  obtain⟨g1,g2,g3,g4,g5,g6⟩:=pushS_all D.m (s:=s) fun v hv=>hP u v s hut huP hsm hv
  k_ownIn
  refine q (_,_) T₂ ⟨⟨M₂,D.M.chg D.S c₂,g1,fun m hm=>g2 m (D.sub m hm),D.c.tr c₂⟩,fun v hv hv2 hvu s' hs'=>(g4 v hv).elim (fun q=>(j1 v q (fun q'=>hv2 (g5 v q')) hvu s' hs').more g2) fun q=>absurd q hv2,fun s' hs'=>(List.mem_append.mp hs').elim (fun q=>(j2 s' q).more g2) fun q=>List.mem_singleton.mp q▸g3,Nat.le_trans g6 j3⟩ (D.M.chg D.S c₂ u hut)
 ·rintro⟨p,y⟩ T₁ ⟨D,j1,j2,j3⟩ _
  refine k p y T₁ D (fun v hv hv2 s hs=>?_) (Nat.lt_of_le_of_lt j3 ?_)
  ·by_cases q:v=u
   ·exact j2 s (q▸hs)
   ·exact j1 v hv hv2 q s hs
  ·unfold toDo
   rw [hws,List.length_append]
   exact Nat.add_lt_add_right (Nat.lt_succ_self _) _
set_option maxHeartbeats 1000000 in
theorem sp_drain {p:List Th×List Th} {Q:V→TH→Prop} (M:MK h ts f mk wk p T) (S:SL ts T) (hp:Packed 16 ts) (hsr:Sers ts) (hlim:ts.length≤30000) (hok:∀ t∈ts,∀ s∈t.specs,s.Ok ts)
  (hP:Closed P ts) (h1:Mk1 gen ts P p) (h2:∀ u∈p.1,u∉p.2→∀ s∈u.specs,ClS gen ts p.1 s) (k:∀ p' T',MK h ts f mk wk p' T'→p'.2=[]→Mk1 gen ts P p'→(∀ u∈p'.1,∀ s∈u.specs,ClS gen ts p'.1 s)→(∀ m∈p.1,m∈p'.1)→Chg (twoX mk wk) T T'→Q .none T') :
  CallY (CN (n+4)) 26 [.obj h.hp,.obj wk,.int gen,.obj mk] T Q:=by
 refine call_fn (fd:=fd_drain) (by rfl) (by rfl) ?_
 refine (?_:SV _ [some (.obj h.hp),some (.obj wk),some (.int gen),some (.obj mk),none,none] _ _ _)
 refine HandS.intro (WhileY.gh (G:=(List Th×List Th)×Option V×Option V) (fun g=>[some (.obj h.hp),some (.obj wk),some (.int gen),some (.obj mk),g.2.1,g.2.2]) (fun g=>toDo ts g.1) (fun g T'=>DrI h ts f mk wk gen P p g.1 T T'∧Done gen ts g.1) (p,none,none) ⟨⟨M,S,h1,fun _ h=>h,.refl _ _⟩,h2⟩ ?_)
 rintro Q' ⟨p₁,x,y⟩ T₁ ⟨D,hc⟩ q _
 obtain⟨kk,hkk,hwk⟩:=D.M.wks
 have hwl:p₁.2.length≤30000:=Nat.le_trans D.m.wlen (Nat.le_trans D.m.le hlim)
 k_ownIn
 refine LenY.map hwk hwl ?_
 k_ownIn
 refine⟨fun hd=>?_,fun hd=>?_⟩
 ·have h0:p₁.2.length≠0:=fun e=>by rw [e] at hd;cases hd
  obtain⟨ws,u,hws,_⟩:=pop_len h0
  obtain⟨e1,e2⟩:=pop_at (f:=fun t:Th=>V.obj t.tid) hws
  obtain⟨hut,hua,huP⟩:=D.m.sub u (D.m.wsub u (hws▸List.mem_append_right _ (.head _)))
  clear hd h0
  k_ownIn
  refine⟨lmLe hwl,GetY.mk e1 (PutY.intro fun T₂ h₂ c₂=>?_)⟩
  have D₂:=D.pop hkk hwk hws (h₂.trans (congrArg (fun l=>some (kk,O.list l)) e2)) c₂
  have hth:=D₂.M.hb.th u hut
  unfold Th.obj at hth
  k_ownIn
  exact drain_for D₂ hp hsr hlim hok hP hut huP hc hws fun p y T' D hc hm=>q (p,_,y) T' hm ⟨D,hc⟩
 ·have h0:p₁.2=[]:=List.eq_nil_of_length_eq_zero (Nat.eq_zero_of_not_pos fun h=>of_decide_eq_false hd (Int.ofNat_lt.mpr h))
  k_ownIn
  exact k p₁ T₁ D.M h0 D.m (fun u hu=>hc u hu (h0▸fun h=>nomatch h)) D.sub D.c
end
set_option genInjectivity false
theorem sp_slot {n:Nat} {t:Th} {x:Int} {T:TH} {Q:V→TH→Prop} (ht:T[t.tid]?=some (.th,t.obj)) (k':Q (.int ((t.addr:Int)+2+x)) T):CallY (CN (n+1)) 7 [.obj t.tid,.int x] T Q:=by
 refine call_fn (fd:=fd_slot_word) (by rfl) (by rfl) ?_
 show SV _ [some (.obj t.tid),some (.int x)] _ _ _
 unfold Th.obj at ht
 k_ownIn
 exact k'
theorem sp_card {n:Nat} {h:Hid} {ts:List Th} {f:Hn} {x:Int} {T:TH} {Q:V→TH→Prop} (hb:HB h ts f T) (k:∀ y,Q (.int y) T):CallY (CN (n+1)) 8 [.obj h.hp,.int x] T Q:=by
 obtain⟨b1,b2,b3,b4,b5,b6,b7⟩:=hb
 refine call_fn (fd:=fd_card_number) (by rfl) (by rfl) ?_
 show SV _ [some (.obj h.hp),some (.int x)] _ _ _
 unfold hpObj at b1
 k_ownIn
 exact k _
theorem sp_old {n:Nat} {h:Hid} {ts:List Th} {f:Hn} {gen:Nat} {T:TH} {Q:V→TH→Prop} (hb:HB h ts f T) (S:SL ts T) (hlen:∀ t∈ts,t.specs.length≤1000) (k:∀ i T',T[i]?=none→T'[i]?=some (.tmp 270,.list [])→Chg noX T T'→Q (.obj i) T'):CallY (CN (n+2)) 27 [.obj h.hp,.int gen] T Q:=by
 refine call_fn (fd:=fd_old_slots) (by rfl) (by rfl) ?_
 refine (?_:SV _ [some (.obj h.hp),some (.int gen),none,none,none] _ _ _)
 k_ownIn
 refine AnyK.mk (.tmp 270) (NewY.intro fun i T₁ hn₁ h₁ c₁=>?_)
 replace hb:=hb.keep0 c₁
 have S₁:SL ts T₁:=fun t ht=>c₁.keep (S t ht)
 have hh:=hb.hp
 unfold hpObj at hh
 have htl:=hb.tl
 k_ownIn
 refine ForY.split (G:=Option V×Option V) (fun g=>[some (.obj h.hp),some (.int gen),some (.obj i),g.1,g.2]) (fun _ _ _ T'=>T'=T₁) htl (_,_) rfl ?_ ?_
 ·intro Q' pre t post g_;refine pp2 g_ fun x y=>?_;rintro T' e rfl ho q _
  have htm:t∈ts:=e▸List.mem_append_right _ (.head _)
  have hth:=hb.th t htm
  have hth':=hth
  unfold Th.obj at hth'
  have hsl:=S₁ t htm
  k_ownIn
  refine⟨fun _=>?_,fun _=>?_⟩
  ·k_ownIn
   have hlt:=hlen t htm
   refine LenY.map hsl hlt ?_
   refine RangeY.gh (G:=Option V) (fun y=>[some (.obj h.hp),some (.int gen),some (.obj i),some (.obj t.tid),y]) (fun _ _ T''=>T''=T') (Nat.le_trans hlt (Nat.le_of_ble_eq_true rfl)) y rfl ?_ ?_
   ·rintro Q' j' y T'' hj' rfl q _
    k_ownIn
    refine sp_slot hth ?_
    k_ownIn
    refine sp_card hb fun y=>?_
    k_ownIn
    refine CmpY.mem_di hb.cd ?_
    refine⟨fun hb=>(nomatch hb),fun _=>?_⟩
    k_ownIn
    exact q _ _ rfl
   ·rintro y T'' rfl
    k_ownIn
    exact q (_,_) _ rfl ho
  ·k_ownIn
   exact q (_,_) _ rfl ho
 ·intro g_;refine pp2 g_ fun x y=>?_;rintro T' rfl _
  k_ownIn
  exact k _ _ hn₁ h₁ c₁
structure RowsAt (ts:List Th) (rows:List (Nat×List Spec)) (T:TH):Prop where
 at_:∀ r∈rows,T[r.1]?=some (.real,.list (r.2.map (Spec.val (whOf ts))))
 ok:∀ r∈rows,∀ s∈r.2,s.Ok ts
theorem MK.real {h:Hid} {ts:List Th} {f:Hn} {mk wk:Nat} {p:List Th×List Th} {T T':TH} {i:Nat} {k:K} {o:O} (M:MK h ts f mk wk p T) (c:Chg (twoX mk wk) T T') (hi:T[i]?=some (k,o)) (hk:k≠.tmp 280∧k≠.tmp 281∧k≠.tmp 291):T'[i]?=some (k,o):=c.get hi fun q=>by
 obtain⟨kk,hkk,hw⟩:=M.wks
 rcases q with q|q
 ·exact ne_kind hi M.mks hk.1 q
 ·exact ne_kind hi hw (hkk.elim (fun q=>q▸hk.2.1) fun q=>q▸hk.2.2) q
theorem RowsAt.chg {ts:List Th} {rows:List (Nat×List Spec)} {T T':TH} {h:Hid} {f:Hn} {mk wk:Nat} {p:List Th×List Th} (R:RowsAt ts rows T) (M:MK h ts f mk wk p T) (c:Chg (twoX mk wk) T T'):RowsAt ts rows T':=⟨fun r hr=>M.real c (R.at_ r hr) (by decide),R.ok⟩
section
variable {n mk wk lo gen:Nat} {h:Hid} {ts:List Th} {f:Hn} {p:List Th×List Th} {P:Th→Prop} {T₀ T:TH} {rows:List (Nat×List Spec)} {x y:Option V}
set_option maxHeartbeats 1000000 in
theorem mark_for {ro:Nat} {kr:K} {l:List Spec} {Q:PS'} (D:DrI h ts f mk wk gen P ([],[]) p T₀ T) (hw:∀ v∈p.1,v∈p.2) (hp:Packed 16 ts) (hsr:Sers ts) (hlim:ts.length≤30000) (hr:T[ro]?=some (kr,.list (l.map (Spec.val (whOf ts))))) (hkr:kr≠.tmp 280∧kr≠.tmp 281∧kr≠.tmp 291) (hok:∀ s∈l,s.Ok ts) (hP0:∀ s∈l,∀ v,tgt ts s=some v→P v)
  (k:∀ p' y T',DrI h ts f mk wk gen P ([],[]) p' T₀ T'→(∀ v∈p'.1,v∈p'.2)→(∀ m∈p.1,m∈p'.1)→(∀ s∈l,ClS gen ts p'.1 s)→Q (none,[some (.obj h.hp),some (.obj lo),some (.int gen),some (.obj mk),some (.obj wk),some (.obj ro),y,none,none]) T') :
  ForY [6] (fun ρ T Q=>SV (CN (n+4)) ρ [.expr (.call 25 [.loc 0,.loc 6,.loc 2,.loc 3,.loc 4])] T Q) Q [some (.obj h.hp),some (.obj lo),some (.int gen),some (.obj mk),some (.obj wk),some (.obj ro),y,none,none] T (.obj ro):=by
 refine ForY.split (G:=(List Th×List Th)×Option V) (fun g=>[some (.obj h.hp),some (.obj lo),some (.int gen),some (.obj mk),some (.obj wk),some (.obj ro),g.2,none,none]) (fun pre _ g T=>DrI h ts f mk wk gen P p g.1 T₀ T∧(∀ v∈g.1.1,v∈g.1.2)∧∀ s∈pre,ClS gen ts g.1.1 s) hr (p,y) ⟨⟨D.M,D.S,D.m,fun _ h=>h,D.c⟩,hw,fun _ h=>(nomatch h)⟩ ?_ ?_
 ·rintro Q' pre s post ⟨p,y⟩ T₁ e ⟨D,j1,j2⟩ ho q _
  have hsm:s∈l:=e▸List.mem_append_right _ (.head _)
  have hl:=Nat.le_trans D.m.le hlim
  k_ownIn
  refine sp_push D.M hp hsr (Nat.le_trans hlim (Nat.le_of_ble_eq_true rfl)) (hok s hsm) (fun m hm=>(D.m.sub m hm).1) (Nat.le_trans hl (Nat.le_of_ble_eq_true rfl)) (Nat.le_trans D.m.wlen (Nat.le_trans hl (Nat.le_of_ble_eq_true rfl))) fun T₂ M₂ c₂=>?_
  obtain⟨g1,g2,g3,g4,g5,g6⟩:=pushS_all D.m (s:=s) fun v hv=>hP0 s hsm v hv
  k_ownIn
  exact q (_,_) T₂ ⟨⟨M₂,D.M.chg D.S c₂,g1,fun m hm=>g2 m (D.sub m hm),D.c.tr c₂⟩,fun v hv=>(g4 v hv).elim (fun q=>g5 v (j1 v q)) id,fun s' hs'=>(List.mem_append.mp hs').elim (fun q=>(j2 s' q).more g2) fun q=>List.mem_singleton.mp q▸g3⟩ (D.M.real c₂ ho hkr)
 ·rintro⟨p',y⟩ T₁ ⟨D,j1,j2⟩ _
  exact k p' y T₁ ⟨D.M,D.S,D.m,fun _ h=>(nomatch h),D.c⟩ j1 D.sub j2
set_option maxHeartbeats 1000000 in
theorem mark_end {u v:Option V} {Q:V→TH→Prop} (D:DrI h ts f mk wk gen P ([],[]) p T₀ T) (hw:∀ v∈p.1,v∈p.2) (hp:Packed 16 ts) (hsr:Sers ts) (hlim:ts.length≤30000) (hok:∀ t∈ts,∀ s∈t.specs,s.Ok ts) (hP:Closed P ts)
  (k:∀ ms T',T'[mk]?=some (.tmp 280,.di (marksL ms))→Mk1 gen ts P (ms,[])→(∀ u∈ms,∀ s∈u.specs,ClS gen ts ms s)→(∀ m∈p.1,m∈ms)→Chg (twoX mk wk) T₀ T'→Q (.obj mk) T') :
  SV (CN (n+4)) [some (.obj h.hp),some (.obj lo),some (.int gen),some (.obj mk),some (.obj wk),x,y,u,v] (fd_mark.body.drop 4) T fun r T=>Q (r.1.getD .none) T:=by
 k_ownIn
 refine sp_drain D.M D.S hp hsr hlim hok hP D.m (fun u hu hu2=>absurd (hw u hu) hu2) fun p₅ T₅ M₅ e₅ g1 g2 g3 c₅=>?_
 k_ownIn
 obtain⟨p51,p52⟩:=p₅
 dsimp only at e₅
 subst e₅
 exact k p51 T₅ M₅.mks g1 g2 g3 (D.c.tr c₅)
set_option maxHeartbeats 1000000 in
theorem sp_mark {Q:V→TH→Prop} (hb:HB h ts f T) (S:SL ts T) (hp:Packed 16 ts) (hsr:Sers ts) (hlim:ts.length≤30000) (hok:∀ t∈ts,∀ s∈t.specs,s.Ok ts) (hlen:∀ t∈ts,t.specs.length≤1000)
  (R:RowsAt ts rows T) (hlo:T[lo]?=some (.tmp 510,.list (rows.map fun r=>.obj r.1))) (hP:Closed P ts) (hP0:∀ r∈rows,∀ s∈r.2,∀ v,tgt ts s=some v→P v)
  (k:∀ mk ms T',T[mk]?=none→T'[mk]?=some (.tmp 280,.di (marksL ms))→Mk1 gen ts P (ms,[])→(∀ u∈ms,∀ s∈u.specs,ClS gen ts ms s)→(∀ r∈rows,∀ s∈r.2,ClS gen ts ms s)→Chg noX T T'→Q (.obj mk) T') :
  CallY (CN (n+5)) 28 [.obj h.hp,.obj lo,.int gen] T Q:=by
 refine call_fn (fd:=fd_mark) (by rfl) (by rfl) ?_
 refine (?_:SV _ [some (.obj h.hp),some (.obj lo),some (.int gen),none,none,none,none,none,none] _ _ _)
 k_ownIn
 refine AnyK.mk (.tmp 280) (NewY.intro fun mk T₁ hn₁ h₁ c₁=>?_)
 k_ownIn
 refine AnyK.mk (.tmp 281) (NewY.intro fun wk T₂ hn₂ h₂ c₂=>?_)
 have c₁₂:Chg noX T T₂:=c₁.tr c₂
 have M₂:MK h ts f mk wk ([],[]) T₂:=⟨hb.keep0 c₁₂,c₂.keep h₁,_,.inl rfl,h₂⟩
 have R₂:RowsAt ts rows T₂:=⟨fun r hr=>c₁₂.keep (R.at_ r hr),R.ok⟩
 have D:DrI h ts f mk wk gen P ([],[]) ([],[]) T₂ T₂:=⟨M₂,fun t ht=>c₁₂.keep (S t ht),⟨fun _ q=>(nomatch q),List.nodup_nil,fun _ q=>(nomatch q),Nat.le_refl _⟩,fun _ q=>(nomatch q),.refl _ _⟩
 have outer:∀ {T'},Chg (twoX mk wk) T₂ T'→Chg noX T T':=fun c=>c₁₂.trans c (fun _ _ _ _ q=>q) fun i k o hi q=>q.elim (none_some hn₁ hi) (none_some (none_back hn₂ (c₁.weaken fun _ _ q=>q.elim)) hi)
 have hlo₂:=c₁₂.keep hlo
 clear hb S h₁ h₂ c₁ c₂ hn₂ c₁₂ hlo R
 k_ownIn
 refine ForY.split (G:=(List Th×List Th)×Option V×Option V) (fun g=>[some (.obj h.hp),some (.obj lo),some (.int gen),some (.obj mk),some (.obj wk),g.2.1,g.2.2,none,none]) (fun pre _ g T=>DrI h ts f mk wk gen P ([],[]) g.1 T₂ T∧(∀ v∈g.1.1,v∈g.1.2)∧∀ r∈pre,∀ s∈r.2,ClS gen ts g.1.1 s) hlo₂ (([],[]),none,none) ⟨D,fun _ q=>(nomatch q),fun _ q=>(nomatch q)⟩ ?_ ?_
 ·intro Q' pre r post g_;refine pp3 g_ fun p x y=>?_;rintro T' e ⟨D,i1,i2⟩ ho q _
  have hrm:r∈rows:=e▸List.mem_append_right _ (.head _)
  k_ownIn
  refine mark_for D i1 hp hsr hlim ((R₂.chg M₂ D.c).at_ r hrm) (by decide) (R₂.ok r hrm) (hP0 r hrm) fun p' y T₃ D j1 j2 j3=>?_
  k_ownIn
  exact q (_,_,_) T₃ ⟨D,j1,fun r' hr' s hs=>(List.mem_append.mp hr').elim (fun q=>(i2 r' q s hs).more j2) fun q=>j3 s (List.mem_singleton.mp q▸hs)⟩ (M₂.real D.c hlo₂ (by decide))
 ·intro g_;refine pp3 g_ fun p x y=>?_;rintro T' ⟨D,i1,i2⟩ _
  have fin:∀ {u v:Option V} {T''},Chg noX T' T''→SV (CN (n+4)) [some (.obj h.hp),some (.obj lo),some (.int gen),some (.obj mk),some (.obj wk),x,y,u,v] (fd_mark.body.drop 4) T'' fun r T=>Q (r.1.getD .none) T:=fun {u v T''} c''=>by
   obtain⟨kk,hkk,a3⟩:=D.M.wks
   exact mark_end ⟨⟨D.M.hb.keep0 c'',c''.keep D.M.mks,kk,hkk,c''.keep a3⟩,fun t ht=>c''.keep (D.S t ht),D.m,D.sub,D.c.tr (c''.weaken fun _ _ q=>q.elim)⟩ i1 hp hsr hlim hok hP fun ms T₅ h5 g1 g2 g3 c₅=>k mk ms T₅ hn₁ h5 g1 g2 (fun r hr s hs=>(i2 r hr s hs).more g3) (outer c₅)
  k_ownIn
  refine⟨fun _=>?_,fun _=>fin (.refl _ _)⟩
  k_ownIn
  refine sp_old D.M.hb D.S hlen fun i T₆ hn₆ h₆ c₆=>?_
  exact ForY.unroll 9 (FV.done h₆ rfl (fin c₆))
end
set_option genInjectivity false
structure Hds (hd hr:Nat) (T:TH):Prop where
 hd:T[hd]?=some (.hd,.inst 4 [.obj hr])
 hr:T[hr]?=some (.hr,.list [])
theorem Hds.chg {X:Nat→K→Prop} {hd hr:Nat} {T T':TH} (H:Hds hd hr T) (c:Chg X T T') (n:∀ i,¬ X i .hd∧¬ X i .hr):Hds hd hr T':=⟨c.get H.hd (n _).1,c.get H.hr (n _).2⟩
theorem nk {ks:List K} {k:K} {i:Nat} (h:k∉ks):¬ ksX ks i k:=h
theorem sp_strong {n:Nat} {hd hr:Nat} {T:TH} {Q:V→TH→Prop} (H:Hds hd hr T) (k:∀ i T',T[i]?=none→T'[i]?=some (.real,.list [])→Chg noX T T'→Q (.obj i) T'):CallY (CN (n+1)) 34 [.obj hd] T Q:=by
 obtain⟨h1,h2⟩:=H
 refine call_fn (fd:=fd_strong_values) (by rfl) (by rfl) ?_
 show SV _ [some (.obj hd),none,none] _ _ _
 k_ownIn
 refine AnyK.mk .real ?_
 k_ownIn
 k_ownIn
 refine ForY.unroll 9 ?_
 k_ownIn
 refine FV.done (by k_caughtNB) rfl ?_
 k_ownIn
 exact k _ _ (by assumption) (by assumption) (by assumption)
theorem sp_clear {n:Nat} {hd hr:Nat} {T:TH} {Q:V→TH→Prop} {a b c d:V} (H:Hds hd hr T) (k:Q (.int 0) T):CallY (CN (n+1)) 35 [.obj hd,a,b,c,d] T Q:=by
 obtain⟨h1,h2⟩:=H
 refine call_fn (fd:=fd_clear_handles) (by rfl) (by rfl) ?_
 show SV _ [some (.obj hd),some a,some b,some c,some d,none,none] _ _ _
 k_ownIn
 k_ownIn
 refine ForY.unroll 9 ?_
 k_ownIn
 refine FV.done (by k_caughtNB) rfl ?_
 k_ownIn
 exact k
theorem sp_moveh {n:Nat} {hd hr:Nat} {T:TH} {Q:V→TH→Prop} {a:V} (H:Hds hd hr T) (k:Q .none T):CallY (CN (n+1)) 36 [.obj hd,a] T Q:=by
 obtain⟨h1,h2⟩:=H
 refine call_fn (fd:=fd_move_handles) (by rfl) (by rfl) ?_
 show SV _ [some (.obj hd),some a,none] _ _ _
 k_ownIn
 k_ownIn
 refine ForY.unroll 9 ?_
 k_ownIn
 refine FV.done (by k_caughtNB) rfl ?_
 k_ownIn
 exact k
theorem HB.hpPut {h h':Hid} {ts:List Th} {f f':Hn} {T T':TH} (b:HB h ts f T) (c:Chg (oneX h.hp) T T') (hh:T'[h.hp]?=some (.hp,hpObj h' f' (endOf ts))) (e:h'.hp=h.hp) (e1:T'[h'.tl]?=some (.tl,.list (ts.map fun t=>.obj t.tid))) (e2:T'[h'.at_]?=some (.at_,.di (atOf ts)))
  (e3:T'[h'.cd]?=some (.cd,.di [])) (e4:T'[h'.fin]?=some (.fin,.list [])) (e5:T'[h'.rdy]?=some (.real,.list [])):HB h' ts f' T' :=
 ⟨e▸hh,e1,e2,e3,e4,e5,fun t ht=>c.otherK (b.th t ht) hh (by decide)⟩
theorem sp_pick {n:Nat} {h:Hid} {ts:List Th} {f:Hn} {T:TH} {Q:V→TH→Prop} {a b:V} (hb:HB h ts f T) (k:∀ i j T',T[i]?=none→T'[i]?=some (.tmp 371,.list [])→HB {h with fin:=j} ts f T'→Chg (ksX [.hp]) T T'→Q (.obj i) T'):CallY (CN (n+1)) 37 [.obj h.hp,a,b] T Q:=by
 have hb':=hb
 obtain⟨b1,b2,b3,b4,b5,b6,b7⟩:=hb
 refine call_fn (fd:=fd_pick_finals) (by rfl) (by rfl) ?_
 show SV _ [some (.obj h.hp),some a,some b,none,none,none] _ _ _
 unfold hpObj at b1
 k_ownIn
 refine AnyK.mk .fin ?_
 refine NewY.intro ?_
 intro j T₁ hn₁ h₁ c₁
 k_ownIn
 refine AnyK.mk (.tmp 371) ?_
 refine NewY.intro ?_
 intro i T₂ hn₂ h₂ c₂
 have hb₂:=hb'.keep0 (c₁.tr c₂)
 have j₂:=c₂.keep h₁
 k_ownIn
 k_ownIn
 refine ForY.unroll 9 ?_
 k_ownIn
 refine FV.done (by k_caughtNB) rfl ?_
 skip
 k_ownIn
 rename_i T₃ h₃ c₃
 refine k i j T₃ (none_back hn₂ (c₁.weaken fun _ _ _=>trivial)) (by k_caughtNB) (hb₂.hpPut c₃ (by simpa [hpObj,putAt,putO] using h₃) rfl (by k_caughtNB) (by k_caughtNB) (by k_caughtNB) (by k_caughtNB) ?_) (by k_caughtB)
 exact c₃.otherK hb₂.rdy h₃ (by decide)
theorem sp_rootl {n:Nat} {h:Hid} {ts:List Th} {f:Hn} {hd hr lo:Nat} {rows:List Nat} {T:TH} {Q:V→TH→Prop} (hb:HB h ts f T) (H:Hds hd hr T) (hlo:T[lo]?=some (.tmp 540,.list (rows.map .obj))) (hlen:rows.length≤50000)
  (k:∀ i sv T',T[i]?=none→T'[i]?=some (.tmp 510,.list ((rows++[h.rdy,sv]).map .obj))→T'[sv]?=some (.real,.list [])→Chg noX T T'→Q (.obj i) T'):CallY (CN (n+2)) 51 [.obj h.hp,.obj lo,.obj hd] T Q:=by
 refine call_fn (fd:=fd_root_lists) (by rfl) (by rfl) ?_
 show SV _ [some (.obj h.hp),some (.obj lo),some (.obj hd),none,none] _ _ _
 k_ownIn
 refine AnyK.mk (.tmp 510) ?_
 refine NewY.intro ?_
 intro i T₁ hn₁ h₁ c₁
 k_ownIn
 k_ownIn
 refine (ForY.over (fun j ρ T'=>∃ x:Option V,ρ=[some (.obj h.hp),some (.obj lo),some (.obj hd),some (.obj i),x]∧T'[i]?=some (.tmp 510,.list ((rows.take j).map .obj))∧Chg (oneX i) T₁ T') ?_)
 k_ownIn
 refine⟨⟨none,rfl,by simpa using h₁,.refl _ _⟩,?_,?_⟩
 ·rintro j v ρ T' hv ⟨x,rfl,hi,c'⟩ ho
  rw [List.getElem?_map] at hv
  obtain⟨r,hr',rfl⟩:=Option.map_eq_some_iff.mp hv
  k_ownIn
  refine⟨by simp;unfold limit;lia,?_⟩
  refine PutY.intro ?_
  intro T₂ h₂ c₂
  k_ownIn
  refine⟨⟨_,rfl,?_,c'.tr c₂⟩,c₂.otherK ho h₂ (by decide)⟩
  rw [h₂,List.take_add_one,hr',List.map_append]
  rfl
 ·rintro ρ T' ⟨x,rfl,hi,c'⟩ ho
  rw [List.length_map,List.take_length] at hi
  have c₁':Chg noX T T':=c'.fresh c₁ hn₁
  have hb':=hb.keep0 c₁'
  have H':=H.chg c₁' fun _=>⟨id,id⟩
  have hh:=hb'.hp
  unfold hpObj at hh
  k_ownIn
  refine⟨by simp;unfold limit;lia,?_⟩
  refine PutY.intro ?_
  intro T₂ h₂ c₂
  have c₂':Chg noX T T₂:=c₂.fresh c₁' hn₁
  have H₂:=H.chg c₂' fun _=>⟨id,id⟩
  k_ownIn
  refine sp_strong H₂ fun sv T₃ hn₃ h₃ c₃=>?_
  have h₂':=c₃.keep h₂
  k_ownIn
  refine⟨by simp;unfold limit;lia,?_⟩
  refine PutY.intro ?_
  intro T₄ h₄ c₄
  k_ownIn
  refine k i sv T₄ hn₁ ?_ (c₄.otherK h₃ h₄ (by decide)) (c₄.fresh (c₂'.tr c₃) hn₁)
  rw [h₄]
  simp
theorem sp_more {n:Nat} {h:Hid} {ts:List Th} {f:Hn} {mk lo:Nat} {ms:List Th} {T:TH} {gen:Nat} {P:Th→Prop} {Q:V→TH→Prop} (hb:HB h ts f T) (hmk:T[mk]?=some (.tmp 280,.di (marksL ms))) (hlo:T[lo]?=some (.tmp 371,.list [])) (S:SL ts T) (hp:Packed 16 ts) (hsr:Sers ts)
  (hlim:ts.length≤30000) (hok:∀ t∈ts,∀ s∈t.specs,s.Ok ts) (hP:Closed P ts) (h1:Mk1 gen ts P (ms,[])) (h2:∀ u∈ms,∀ s∈u.specs,ClS gen ts ms s)
  (k:∀ ms' T',T'[mk]?=some (.tmp 280,.di (marksL ms'))→Mk1 gen ts P (ms',[])→(∀ u∈ms',∀ s∈u.specs,ClS gen ts ms' s)→(∀ m∈ms,m∈ms')→Chg (oneX mk) T T'→Q .none T'):CallY (CN (n+5)) 29 [.obj h.hp,.obj mk,.obj lo,.int gen] T Q:=by
 refine call_fn (fd:=fd_reach_more) (by rfl) (by rfl) ?_
 show SV _ [some (.obj h.hp),some (.obj mk),some (.obj lo),some (.int gen),none,none] _ _ _
 k_ownIn
 refine AnyK.mk (.tmp 291) ?_
 refine NewY.intro ?_
 intro wk T₁ hn₁ h₁ c₁
 have M₁:MK h ts f mk wk (ms,[]) T₁:=⟨hb.keep0 c₁,c₁.keep hmk,_,.inr rfl,h₁⟩
 have S₁:SL ts T₁:=fun t ht=>c₁.keep (S t ht)
 k_ownIn
 k_ownIn
 refine ForY.unroll 9 ?_
 k_ownIn
 refine FV.done (by k_caughtNB) rfl ?_
 k_ownIn
 refine sp_drain M₁ S₁ hp hsr hlim hok hP h1 (fun u hu _=>h2 u hu) fun p T₂ M₂ e₂ g1 g2 g3 c₂=>?_
 obtain⟨p1,p2⟩:=p
 dsimp only at e₂
 subst e₂
 k_ownIn
 refine k p1 T₂ M₂.mks g1 g2 g3 (c₁.trans c₂ (fun _ _ _ _ q=>q.elim) fun j kk o hj q=>?_)
 rcases q with q|q
 ·exact q
 ·rw [q,hn₁] at hj;cases hj
set_option maxHeartbeats 1000000 in
theorem sp_living {n:Nat} {h:Hid} {ts:List Th} {f:Hn} {hd hr lo:Nat} {rows:List (Nat×List Spec)} {T:TH} {gen:Nat} {P:Th→Prop} {Q:V→TH→Prop} (hb:HB h ts f T) (H:Hds hd hr T) (S:SL ts T) (hp:Packed 16 ts) (hsr:Sers ts) (hlim:ts.length≤30000) (hok:∀ t∈ts,∀ s∈t.specs,s.Ok ts) (hlen:∀ t∈ts,t.specs.length≤1000)
  (R:RowsAt ts rows T) (hlo:T[lo]?=some (.tmp 540,.list (rows.map fun r=>.obj r.1))) (hrl:rows.length≤50000) (hP:Closed P ts) (hP0:∀ r∈rows,∀ s∈r.2,∀ v,tgt ts s=some v→P v)
  (k:∀ mk ms j T',T[mk]?=none→T'[mk]?=some (.tmp 280,.di (marksL ms))→Mk1 gen ts P (ms,[])→(∀ u∈ms,∀ s∈u.specs,ClS gen ts ms s)→(∀ r∈rows,∀ s∈r.2,ClS gen ts ms s)→HB {h with fin:=j} ts f T'→Chg (ksX [.hp]) T T'→Q (.obj mk) T') :
  CallY (CN (n+6)) 52 [.obj h.hp,.obj lo,.obj hd,.int gen] T Q:=by
 refine call_fn (fd:=fd_find_living) (by rfl) (by rfl) ?_
 show SV _ [some (.obj h.hp),some (.obj lo),some (.obj hd),some (.int gen),none,none] _ _ _
 k_ownIn
 refine sp_rootl (rows:=rows.map (·.1)) hb H (by rw [hlo,List.map_map];rfl) (by simpa using hrl) fun i sv T₁ hn₁ h₁ hsv c₁=>?_
 k_ownIn
 have hb₁:=hb.keep0 c₁
 have S₁:SL ts T₁:=fun t ht=>c₁.keep (S t ht)
 have R₁:RowsAt ts (rows++[(h.rdy,[]),(sv,[])]) T₁:=by
  refine⟨fun r hr'=>?_,fun r hr'=>?_⟩
  ·rcases List.mem_append.mp hr' with q|q
   ·exact c₁.keep (R.at_ r q)
   ·simp only [List.mem_cons,List.not_mem_nil,or_false] at q
    rcases q with rfl|rfl
    ·exact hb₁.rdy
    ·exact hsv
  ·rcases List.mem_append.mp hr' with q|q
   ·exact R.ok r q
   ·simp only [List.mem_cons,List.not_mem_nil,or_false] at q
    rcases q with rfl|rfl<;>exact fun _ q=>nomatch q
 refine sp_mark hb₁ S₁ hp hsr hlim hok hlen R₁ (lo:=i) (by rw [h₁];simp) hP (fun r hr' s hs v hv=>?_) fun mk ms T₂ hn₂ h₂ g1 g2 g3 c₂=>?_
 ·rcases List.mem_append.mp hr' with q|q
  ·exact hP0 r q s hs v hv
  ·simp only [List.mem_cons,List.not_mem_nil,or_false] at q
   rcases q with rfl|rfl<;>cases hs
 ·have c₁₂:=c₁.tr c₂
  have hb₂:=hb₁.keep0 c₂
  have H₂:=H.chg c₁₂ fun _=>⟨id,id⟩
  have hmk₁:T[mk]?=none:=none_back hn₂ (c₁.weaken fun _ _ q=>q.elim)
  k_ownIn
  refine sp_clear H₂ ?_
  k_ownIn
  refine sp_pick hb₂ fun i₃ j₃ T₃ hn₃ h₃ hb₃ c₃=>?_
  have hmk₃:=c₃.get h₂ (nk (by decide))
  have S₃:SL ts T₃:=fun t ht=>c₃.get (c₂.keep (S₁ t ht)) (nk (by decide))
  have H₃:=H₂.chg c₃ fun _=>⟨nk (by decide),nk (by decide)⟩
  k_ownIn
  refine sp_more (h:={h with fin:=j₃}) hb₃ hmk₃ h₃ S₃ hp hsr hlim hok hP g1 g2 fun ms' T₄ h₄ f1 f2 f3 c₄=>?_
  have H₄:=Hds.mk (c₄.otherK H₃.hd h₄ (by decide)) (c₄.otherK H₃.hr h₄ (by decide))
  k_ownIn
  refine sp_clear H₄ ?_
  k_ownIn
  exact k mk ms' j₃ T₄ hmk₁ h₄ f1 f2 (fun r hr' s hs=>(g3 r (List.mem_append_left _ hr') s hs).more f3) (hb₃.off hmk₃ (by decide) c₄) (c₄.fresh (c₁₂.trans c₃ (fun _ _ _ _ q=>q.elim) fun _ _ _ _ q=>q) hmk₁)
set_option genInjectivity false
structure MV (h:Hid) (ts:List Th) (f:Hn) (mv wo:Nat) (ml:List (Int×V)) (T:TH):Prop where
 hb:HB h ts f T
 mvs:T[mv]?=some (.tmp 390,.di ml)
 wos:T[wo]?=some (.tmp 500,.inst 3 [.obj h.hp,.obj mv])
noncomputable def mvd (ml:List (Int×V)) (a a':Nat):Prop:=(dget ml (a:Int)).getD (.int a)=.int a'
theorem sp_mword {n:Nat} {h:Hid} {ts:List Th} {f:Hn} {mv wo:Nat} {ml:List (Int×V)} {T:TH} {t:Th} {d a':Nat} {word:Int} {Q:V→TH→Prop} (M:MV h ts f mv wo ml T) (hp:Packed 16 ts) (hlim:ts.length≤50000) (ht:t∈ts) (hd:d<t.size) (hw:word=((t.addr+d:Nat):Int)) (ha:mvd ml t.addr a')
  (k:Q (.int ((a'+d:Nat):Int)) T):CallY (CN (n+2)) 42 [.obj h.hp,.obj mv,.int word] T Q:=by
 obtain⟨hb,hm,hw'⟩:=M
 have hth:=hb.th t ht
 unfold Th.obj at hth
 refine call_fn (fd:=fd_moved_word) (by rfl) (by rfl) ?_
 show SV _ [some (.obj h.hp),some (.obj mv),some (.int word),none] _ _ _
 k_ownIn
 refine sp_find hb hp.apart ht hd hw hlim ?_
 k_ownIn
 refine CmpY.nmem_di hm ?_
 unfold mvd at ha
 cases q:dget ml (t.addr:Int) with
 | none =>
  rw [q] at ha
  have ha:(t.addr:Int)=a':=by cases ha;rfl
  k_ownIn
  rw [hw,show t.addr=a' by lia]
  exact k
 | some v =>
  rw [q] at ha
  have ha:v=.int a':=ha
  subst ha
  k_ownIn
  refine IdxY.di hm q ?_
  k_ownIn
  rw [hw,show ((t.addr+d:Nat):Int)-(t.addr:Int)+(a':Int)=((a'+d:Nat):Int) by lia]
  exact k
theorem sp_nword {n:Nat} {h:Hid} {ts:List Th} {f:Hn} {mv wo:Nat} {ml:List (Int×V)} {T:TH} {t:Th} {d a':Nat} {word:Int} {Q:V→TH→Prop} (M:MV h ts f mv wo ml T) (hp:Packed 16 ts) (hlim:ts.length≤50000) (ht:t∈ts) (hd:d<t.size) (hw:word=((t.addr+d:Nat):Int)) (ha:mvd ml t.addr a')
  (k:Q (.int ((a'+d:Nat):Int)) T):CallY (CN (n+3)) 41 [.obj wo,.int word] T Q:=by
 have hw':=M.wos
 refine call_fn (fd:=fd_Words_new_word) (by rfl) (by rfl) ?_
 show SV _ [some (.obj wo),some (.int word)] _ _ _
 k_ownIn
 refine sp_mword M hp hlim ht hd hw ha ?_
 k_ownIn
 exact k
theorem sp_plain_ref {n:Nat} {mv wo:Nat} {ml:List (Int×V)} {T:TH} {a a':Nat} {Q:V→TH→Prop} (hm:T[mv]?=some (.tmp 390,.di ml)) (ha:mvd ml a a') (k:Q (refV a') T):CallY (CN (n+1)) 21 [refV a,.obj mv,.obj wo] T Q:=by
 refine call_fn (fd:=fd_move_plain) (by rfl) (by rfl) ?_
 show SV _ [some (.tup [.int 4,.int a]),some (.obj mv),some (.obj wo),none] _ _ _
 k_ownIn
 k_ownIn
 rw [ha]
 exact k
theorem sp_plain_no {n:Nat} {mv wo:Nat} {T:TH} {c:Int} {l:List V} {Q:V→TH→Prop} (hc:c≠4∧c≠6) (k:Q (.tup (.int c::l)) T):CallY (CN (n+1)) 21 [.tup (.int c::l),.obj mv,.obj wo] T Q:=by
 refine call_fn (fd:=fd_move_plain) (by rfl) (by rfl) ?_
 show SV _ [some (.tup (.int c::l)),some (.obj mv),some (.obj wo),none] _ _ _
 have:=hc.1
 have:=hc.2
 k_ownIn
 exact k
theorem sp_plain_loc {n:Nat} {mv wo:Nat} {T:TH} {l:List V} {Q:V→TH→Prop} (k:Q (.tup [.int 6,.tup (.int 1::l)]) T):CallY (CN (n+1)) 21 [.tup [.int 6,.tup (.int 1::l)],.obj mv,.obj wo] T Q:=by
 refine call_fn (fd:=fd_move_plain) (by rfl) (by rfl) ?_
 show SV _ [some (.tup [.int 6,.tup (.int 1::l)]),some (.obj mv),some (.obj wo),none] _ _ _
 k_ownIn
 exact k
theorem sp_plain_place {n:Nat} {h:Hid} {ts:List Th} {f:Hn} {mv wo:Nat} {ml:List (Int×V)} {T:TH} {t:Th} {m a':Nat} {Q:V→TH→Prop} (M:MV h ts f mv wo ml T) (hp:Packed 16 ts) (hlim:ts.length≤50000) (ht:t∈ts) (hd:2+m<t.size) (ha:mvd ml t.addr a')
  (k:Q (placeV m a') T):CallY (CN (n+4)) 21 [placeV m t.addr,.obj mv,.obj wo] T Q:=by
 have hwo:=M.wos
 refine call_fn (fd:=fd_move_plain) (by rfl) (by rfl) ?_
 show SV _ [some (placeV m t.addr),some (.obj mv),some (.obj wo),none] _ _ _
 unfold placeV
 k_ownIn
 refine sp_nword M hp hlim ht hd (by lia) ha ?_
 k_ownIn
 unfold placeV at k
 rw [show ((a':Int)+2+m)=((a'+(2+m):Nat):Int) by lia] at k
 exact k
set_option maxHeartbeats 1000000 in
theorem sp_mstruct_pair {n:Nat} {mv wo:Nat} {ml:List (Int×V)} {T:TH} {m a a':Nat} {Q:V→TH→Prop} (hm:T[mv]?=some (.tmp 390,.di ml)) (ha:mvd ml a a') (k:∀ T',Chg noX T T'→Q (pairV m a') T'):CallY (CN (n+2)) 22 [pairV m a,.obj mv,.obj wo] T Q:=by
 refine call_fn (fd:=fd_move_struct) (by rfl) (by rfl) ?_
 show SV _ [some (pairV m a),some (.obj mv),some (.obj wo),none,none,none,none,none] _ _ _
 unfold pairV
 k_updF
 refine AnyK.mk (.tmp 220) ?_
 k_updF
 refine AnyK.mk (.tmp 221) ?_
 k_updF
 refine sp_plain_no (by decide) ?_
 k_updF
 refine sp_plain_ref (ml:=ml) (by k_caughtNB) ha ?_
 k_updF
 exact k _ (by k_caughtB)
set_option maxHeartbeats 1000000 in
theorem sp_mstruct_outer {n:Nat} {mv wo:Nat} {ml:List (Int×V)} {T:TH} {m a a':Nat} {Q:V→TH→Prop} (hm:T[mv]?=some (.tmp 390,.di ml)) (ha:mvd ml a a') (k:∀ T',Chg noX T T'→Q (outerV m a') T'):CallY (CN (n+2)) 22 [outerV m a,.obj mv,.obj wo] T Q:=by
 refine call_fn (fd:=fd_move_struct) (by rfl) (by rfl) ?_
 show SV _ [some (outerV m a),some (.obj mv),some (.obj wo),none,none,none,none,none] _ _ _
 unfold outerV pairV
 k_updF
 refine AnyK.mk (.tmp 220) ?_
 k_updF
 refine AnyK.mk (.tmp 221) ?_
 k_updF
 refine AnyK.mk (.tmp 222) ?_
 k_updF
 refine sp_plain_no (by decide) ?_
 k_updF
 refine sp_plain_ref (ml:=ml) (by k_caughtNB) ha ?_
 k_updF
 refine sp_plain_no (by decide) ?_
 k_updF
 exact k _ (by k_caughtB)
theorem sp_move {n:Nat} {h:Hid} {ts:List Th} {f:Hn} {mv wo:Nat} {ml:List (Int×V)} {T:TH} {s:Spec} {a':Nat} {Q:V→TH→Prop} (M:MV h ts f mv wo ml T) (hp:Packed 16 ts) (hsr:Sers ts) (hlim:ts.length≤50000) (hs:s.Ok ts) (ha:mvd ml ((tgt ts s).elim 0 Th.addr) a')
  (k:∀ T',Chg noX T T'→Q (s.valA a') T'):CallY (CN (n+5)) 20 [s.val (whOf ts),.obj mv,.obj wo] T Q:=by
 rw [val_tgt]
 refine call_fn (fd:=fd_move_value) (by rfl) (by rfl) ?_
 show SV _ [some (s.valA ((tgt ts s).elim 0 Th.addr)),some (.obj mv),some (.obj wo)] _ _ _
 have hm:=M.mvs
 have hpl:s.form=1→∃ t∈ts,tgt ts s=some t∧2+s.n<t.size:=fun q=>by
  obtain⟨_,t,ht,e,h⟩:=hs.one (hs.place q)
  exact⟨t,ht,tgt_of hsr (hs.place q) ht e,by unfold Th.size;have:=h q;omega⟩
 generalize hA:(tgt ts s).elim 0 Th.addr=A at *
 have hpl':s.form=1→∃ t∈ts,t.addr=A∧2+s.n<t.size:=fun q=>by
  obtain⟨t,ht,e,h⟩:=hpl q
  rw [e] at hA
  exact⟨t,ht,hA,h⟩
 clear hpl hA hs
 obtain⟨form,one,m⟩:=s
 unfold Spec.valA at k ⊢
 rcases form with _|_|_|_|_|_|_|form
 ·show SV _ [some (refV A),some (.obj mv),some (.obj wo)] _ _ _
  unfold refV
  k_ownIn
  exact sp_plain_ref hm ha (k _ (.refl _ _))
 ·obtain⟨t,ht,rfl,h⟩:=hpl' rfl
  show SV _ [some (placeV m t.addr),some (.obj mv),some (.obj wo)] _ _ _
  unfold placeV
  k_ownIn
  exact sp_plain_place M hp hlim ht h ha (k _ (.refl _ _))
 ·show SV _ [some (pairV m A),some (.obj mv),some (.obj wo)] _ _ _
  unfold pairV
  k_ownIn
  exact sp_mstruct_pair hm ha k
 ·show SV _ [some (outerV m A),some (.obj mv),some (.obj wo)] _ _ _
  unfold outerV
  k_ownIn
  exact sp_mstruct_outer hm ha k
 ·show SV _ [some (.tup [.int 1,.int (16+m)]),some (.obj mv),some (.obj wo)] _ _ _
  k_ownIn
  exact sp_plain_no (by decide) (k _ (.refl _ _))
 ·show SV _ [some (.tup [.int 6,.tup [.int 1,.int 1,.int m,.tup []]]),some (.obj mv),some (.obj wo)] _ _ _
  k_ownIn
  exact sp_plain_loc (k _ (.refl _ _))
 ·show SV _ [some (.tup [.int 7,.tup [.int 16,.int (1+m),.tup []]]),some (.obj mv),some (.obj wo)] _ _ _
  k_ownIn
  exact sp_plain_no (by decide) (k _ (.refl _ _))
 ·show SV _ [some (.tup [.int 8,.str (words m)]),some (.obj mv),some (.obj wo)] _ _ _
  k_ownIn
  exact sp_plain_no (by decide) (k _ (.refl _ _))
set_option genInjectivity false
theorem Packed.split:∀ {a:List Th} {t:Th} {b:List Th} {g:Nat},Packed g (a++t::b)→t.addr=g+(a.map Th.size).sum
 | [],t,b,g,h=>h.1
 | u::a,t,b,g,h=>by
  have:=h.2.split
  rw [this,List.map_cons,List.sum_cons];lia
theorem pre_old {os rs pre post:List Th} {t:Th} {gen:Nat} (e:pre++t::post=os++rs) (ho:∀ t∈os,gen<t.age) (hr:∀ t∈rs,t.age≤gen) (ht:gen<t.age):∀ u∈pre,gen<u.age:=by
 rcases List.append_eq_append_iff.mp e with ⟨a,h1,h2⟩|⟨c,h1,h2⟩
 ·exact fun u hu=>ho u (h1▸List.mem_append_left _ hu)
 ·exact absurd ht (Nat.not_lt_of_le (hr t (h2▸List.mem_append_right _ (.head _))))
theorem old_all {l:List Th} {gen:Nat} (h:∀ t∈l,gen<t.age):l.filter (fun t=>decide (gen<t.age))=l:=List.filter_eq_self.mpr fun t ht=>decide_eq_true (h t ht)
theorem filt_y {l:List Th} {t:Th} {p:Th→Bool} (h:p t=true):(l++[t]).filter p=l.filter p++[t]:=by
 rw [List.filter_append,List.filter_cons_of_pos h,List.filter_nil]
theorem filt_n {l:List Th} {t:Th} {p:Th→Bool} (h:¬ p t=true):(l++[t]).filter p=l.filter p:=by
 rw [List.filter_append,List.filter_cons_of_neg h,List.filter_nil,List.append_nil]
theorem sp_endold {n:Nat} {h:Hid} {os rs:List Th} {f:Hn} {gen:Nat} {T:TH} {Q:V→TH→Prop} (hb:HB h (os++rs) f T) (hp:Packed 16 (os++rs)) (ho:∀ t∈os,gen<t.age) (hr:∀ t∈rs,t.age≤gen) (k:Q (.int (endOf os:Nat)) T):CallY (CN (n+1)) 38 [.obj h.hp,.int gen] T Q:=by
 have b1:=hb.hp
 have b2:=hb.tl
 refine call_fn (fd:=fd_end_of_older) (by rfl) (by rfl) ?_
 refine (?_:SV _ [some (.obj h.hp),some (.int gen),none,none] _ _ _)
 unfold hpObj at b1
 k_ownIn
 refine ForY.split (G:=Option V×Nat) (fun g=>[some (.obj h.hp),some (.int gen),some (.int (g.2:Nat)),g.1]) (fun pre _ g T'=>T'=T∧g.2=endOf (pre.filter fun t=>decide (gen<t.age))) b2 (none,16) ⟨rfl,rfl⟩ ?_ ?_
 ·intro Q' pre t post g_;refine pp2 g_ fun x m=>?_;rintro T' e ⟨rfl,em⟩ ho' q _
  have em:m=endOf (pre.filter fun t=>decide (gen<t.age)):=em
  have hth:=hb.th t (e▸List.mem_append_right _ (.head _))
  unfold Th.obj at hth
  repeat o_fieldsN
  by_cases hto:gen<t.age
  ·have e2:m=t.addr:=by
    rw [em,old_all (pre_old e ho hr hto)]
    exact ((e▸hp:Packed 16 (pre++t::post)).split).symm
   have hsz:=t.size_pos
   subst e2
   k_ownIn
   refine q (_,t.addr+t.size) T' ⟨rfl,?_⟩ ho'
   rw [filt_y (p:=fun t:Th=>decide (gen<t.age)) (decide_eq_true hto),endOf_snoc,old_all (pre_old e ho hr hto),(e▸hp:Packed 16 (pre++t::post)).split];rfl
  ·k_ownIn
   refine q (some (.obj t.tid),m) T' ⟨rfl,?_⟩ ho'
   rw [filt_n (p:=fun t:Th=>decide (gen<t.age)) (fun h=>hto (of_decide_eq_true h))];exact em
 ·intro g_;refine pp2 g_ fun x m=>?_;rintro T' ⟨rfl,em⟩ ho'
  have em:m=endOf ((os++rs).filter fun t=>decide (gen<t.age)):=em
  rw [List.filter_append,old_all ho,List.filter_eq_nil_iff.mpr fun t ht h=>Nat.not_lt_of_le (hr t ht) (of_decide_eq_true h),List.append_nil] at em
  subst em
  k_ownIn
  exact k
noncomputable def mov:Nat→List Th→List (Int×V)
 | _,[]=>[]
 | g,t::r=>((t.addr:Int),.int g)::mov (g+t.size) r
theorem mov_snoc:∀ {ys:List Th} {g:Nat} {t:Th},mov g (ys++[t])=mov g ys++[((t.addr:Int),.int (g+(ys.map Th.size).sum:Nat))]
 | [],g,t=>by simp [mov]
 | u::ys,g,t=>by
  show (_,_)::mov (g+u.size) (ys++[t])=_
  rw [mov_snoc,List.map_cons,List.sum_cons]
  show _=((u.addr:Int),V.int g)::(mov (g+u.size) ys++_)
  rw [show g+u.size+(ys.map Th.size).sum=g+(u.size+(ys.map Th.size).sum) by lia]
theorem mov_mem:∀ {ys:List Th} {g:Nat} {p:Int×V},p∈mov g ys→∃ t∈ys,p.1=(t.addr:Int)
 | u::ys,g,p,h=>by
  rcases List.mem_cons.mp h with rfl|h
  ·exact⟨u,.head _,rfl⟩
  ·obtain⟨t,ht,e⟩:=mov_mem h
   exact⟨t,.tail _ ht,e⟩
theorem mov_length:∀ {ys:List Th} {g:Nat},(mov g ys).length=ys.length
 | [],_=>rfl
 | _::ys,g=>congrArg (·+1) mov_length
noncomputable def inY (gen:Nat) (ms:List Th) (t:Th):Bool:=decide (t.age≤gen)&&decide (t∈ms)
theorem inY_y {gen:Nat} {ms:List Th} {t:Th} (h1:t.age≤gen) (h2:t∈ms):inY gen ms t=true:=by unfold inY;rw [decide_eq_true h1,decide_eq_true h2];rfl
theorem inY_n {gen:Nat} {ms:List Th} {t:Th} (h:¬ (t.age≤gen∧t∈ms)):¬ inY gen ms t=true:=fun e=>h ((Bool.and_eq_true_iff.mp e).imp of_decide_eq_true of_decide_eq_true)
theorem mov_new {g:Nat} {pre post:List Th} {t:Th} {p:Th→Bool} (h:Packed 16 (pre++t::post)):∀ q∈mov g (pre.filter p),q.1≠(t.addr:Int):=fun q hq e=>by
 obtain⟨u,hu,e1⟩:=mov_mem hq
 have h1:=(List.pairwise_append.mp h.apart).2.2 u (List.mem_filter.mp hu).1 t (.head _)
 exact Nat.ne_of_lt (Nat.lt_of_lt_of_le (Nat.lt_add_of_pos_right u.size_pos) h1) (Int.ofNat.inj (e1.symm.trans e))
set_option maxHeartbeats 1000000 in
theorem sp_plan {n:Nat} {h:Hid} {os rs ms:List Th} {f:Hn} {gen mk:Nat} {T:TH} {Q:V→TH→Prop} (hb:HB h (os++rs) f T) (hp:Packed 16 (os++rs)) (ho:∀ t∈os,gen<t.age) (hr:∀ t∈rs,t.age≤gen) (hlim:(os++rs).length≤50000)
  (hmk:T[mk]?=some (.tmp 280,.di (marksL ms))) (hms:∀ m∈ms,m∈os++rs) (k:∀ i T',T[i]?=none→T'[i]?=some (.tmp 390,.di (mov (endOf os) ((os++rs).filter (inY gen ms))))→Chg noX T T'→Q (.obj i) T') :
  CallY (CN (n+2)) 39 [.obj h.hp,.obj mk,.int gen] T Q:=by
 refine call_fn (fd:=fd_plan_moves) (by rfl) (by rfl) ?_
 refine (?_:SV _ [some (.obj h.hp),some (.obj mk),some (.int gen),none,none,none] _ _ _)
 k_ownIn
 refine AnyK.mk (.tmp 390) (NewY.intro fun i T₁ hn₁ h₁ c₁=>?_)
 k_ownIn
 have hb₁:=hb.keep0 c₁
 refine sp_endold hb₁ hp ho hr ?_
 have b1:=hb₁.hp
 unfold hpObj at b1
 have b2:=hb₁.tl
 k_ownIn
 refine ForY.split (G:=Option V×Nat) (fun g=>[some (.obj h.hp),some (.obj mk),some (.int gen),some (.obj i),some (.int (g.2:Nat)),g.1]) (fun pre _ g T'=>g.2=endOf os+((pre.filter (inY gen ms)).map Th.size).sum∧T'[i]?=some (.tmp 390,.di (mov (endOf os) (pre.filter (inY gen ms))))∧Chg noX T T') b2 (none,endOf os) ⟨rfl,h₁,c₁⟩ ?_ ?_
 ·intro Q' pre t post g_;refine pp2 g_ fun x m=>?_;rintro T' e ⟨em,hi,c'⟩ ho' q _
  have htm:t∈os++rs:=e▸List.mem_append_right _ (.head _)
  have hth:=c'.keep (hb.th t htm)
  unfold Th.obj at hth
  have hmk':=c'.keep hmk
  have hl:(pre.filter (inY gen ms)).length≤50000:=Nat.le_trans (List.length_filter_le ..) (Nat.le_trans (by rw [←e,List.length_append];exact Nat.le_add_right _ _) hlim)
  have no:¬ (t.age≤gen∧t∈ms)→∀ x',Q' (none,[some (.obj h.hp),some (.obj mk),some (.int gen),some (.obj i),some (.int (m:Nat)),x']) T':=fun h x'=>q (x',m) T' (by rw [filt_n (inY_n h)];exact⟨em,hi,c'⟩) ho'
  repeat o_fieldsN
  refine⟨fun hb'=>?_,fun hb'=>?_⟩
  ·have h1:=Int.ofNat_le.mp (of_decide_eq_true hb')
   repeat o_fieldsN
   refine CmpY.mem_di hmk' ?_
   rw [dget_marks hp.apart htm hms]
   by_cases h2:t∈ms
   ·rw [decide_eq_true h2]
    k_ownIn
    refine IdxPut.di hi (by rw [mov_length];exact Nat.lt_of_le_of_lt hl (Nat.le_of_ble_eq_true rfl)) ?_
    rw [dput_new (mov_new (e▸hp))]
    refine PutY.intro fun T₂ h₂ c₂=>?_
    have hth₂:=c₂.otherK hth h₂ (by decide)
    k_ownIn
    refine q (_,m+t.size) T₂ ?_ (c₂.otherK ho' h₂ (by decide))
    rw [filt_y (inY_y h1 h2)]
    refine⟨?_,by rw [mov_snoc];exact (show m=_ from em)▸h₂,c₂.fresh c' hn₁⟩
    rw [List.map_append,List.sum_append,←Nat.add_assoc]
    exact congrArg (·+t.size) em
   ·rw [decide_eq_false h2]
    k_ownIn
    exact no (fun h=>h2 h.2) _
  ·k_ownIn
   exact no (fun h=>of_decide_eq_false hb' (Int.ofNat_le.mpr h.1)) _
 ·intro g_;refine pp2 g_ fun x m=>?_;rintro T' ⟨em,hi,c'⟩ _
  k_ownIn
  exact k i T' hn₁ hi c'
set_option genInjectivity false
theorem MV.keep0 {h:Hid} {ts:List Th} {f:Hn} {mv wo:Nat} {ml:List (Int×V)} {T T':TH} (M:MV h ts f mv wo ml T) (c:Chg noX T T'):MV h ts f mv wo ml T':=⟨M.hb.keep0 c,c.keep M.mvs,c.keep M.wos⟩
noncomputable def newV (na:Spec→Nat) (l:List Spec):List V:=l.map fun s=>s.valA (na s)
theorem sp_mvals {n:Nat} {h:Hid} {ts:List Th} {f:Hn} {mv wo vl:Nat} {kk:K} {ml:List (Int×V)} {T:TH} {specs:List Spec} {na:Spec→Nat} {Q:V→TH→Prop} (M:MV h ts f mv wo ml T) (hp:Packed 16 ts) (hsr:Sers ts) (hlim:ts.length≤50000) (hs:∀ s∈specs,s.Ok ts) (hsl:specs.length≤1000)
  (hvl:T[vl]?=some (kk,.list (specs.map (Spec.val (whOf ts))))) (ha:∀ s∈specs,mvd ml ((tgt ts s).elim 0 Th.addr) (na s)) (k:∀ i T',T[i]?=none→T'[i]?=some (.tmp 440,.list (newV na specs))→Chg noX T T'→Q (.obj i) T') :
  CallY (CN (n+6)) 44 [.obj vl,.obj mv,.obj wo] T Q:=by
 refine call_fn (fd:=fd_moved_values) (by rfl) (by rfl) ?_
 refine (?_:SV _ [some (.obj vl),some (.obj mv),some (.obj wo),none,none] _ _ _)
 k_ownIn
 refine AnyK.mk (.tmp 440) (NewY.intro fun i T₁ hn₁ h₁ c₁=>?_)
 k_ownIn
 refine ForY.split (G:=Option V) (fun x=>[some (.obj vl),some (.obj mv),some (.obj wo),some (.obj i),x]) (fun pre _ _ T'=>T'[i]?=some (.tmp 440,.list (newV na pre))∧Chg noX T T') (c₁.keep hvl) none ⟨h₁,c₁⟩ ?_ ?_
 ·rintro Q' pre s post x T' e ⟨hi,c'⟩ _ q _
  have hsm:s∈specs:=e▸List.mem_append_right _ (.head _)
  have hl:pre.length≤1000:=Nat.le_trans (by rw [←e,List.length_append];exact Nat.le_add_right _ _) hsl
  k_ownIn
  refine sp_move (M.keep0 c') hp hsr hlim (hs s hsm) (ha s hsm) fun T₂ c₂=>?_
  have hi₂:=c₂.keep hi
  k_ownIn
  refine⟨lmL hl,PutY.intro fun T₃ h₃ c₃=>?_⟩
  have c₃':Chg noX T T₃:=c₃.fresh (c'.tr c₂) hn₁
  k_ownIn
  exact q _ T₃ ⟨by unfold newV;rw [List.map_append];exact h₃,c₃'⟩ (c₃'.keep hvl)
 ·rintro x T' ⟨hi,c'⟩ _
  k_ownIn
  exact k i T' hn₁ hi c'
noncomputable abbrev Row:=Nat×K×List Spec
noncomputable def RowsIs (wh:Nat→Nat) (rows:List Row) (T:TH):Prop:=∀ r∈rows,T[r.1]?=some (r.2.1,.list (r.2.2.map (Spec.val wh)))
theorem sp_nlists {n:Nat} {h:Hid} {ts:List Th} {f:Hn} {mv wo lo:Nat} {kk:K} {ml:List (Int×V)} {T:TH} {rows:List Row} {na:Spec→Nat} {Q:V→TH→Prop} (M:MV h ts f mv wo ml T) (hp:Packed 16 ts) (hsr:Sers ts) (hlim:ts.length≤50000) (hs:∀ r∈rows,∀ s∈r.2.2,s.Ok ts) (hsl:∀ r∈rows,r.2.2.length≤1000)
  (hrl:rows.length≤50000) (R:RowsIs (whOf ts) rows T) (hlo:T[lo]?=some (kk,.list (rows.map fun r=>.obj r.1))) (ha:∀ r∈rows,∀ s∈r.2.2,mvd ml ((tgt ts s).elim 0 Th.addr) (na s))
  (k:∀ (i:Nat) (ps:List (Row×Nat)) (T':TH),T[i]?=none→T'[i]?=some (.tmp 450,.list (ps.map fun p=>.obj p.2))→ps.map (·.1)=rows→(∀ p∈ps,T'[p.2]?=some (.tmp 440,.list (newV na p.1.2.2)))→Chg noX T T'→Q (.obj i) T') :
  CallY (CN (n+7)) 45 [.obj lo,.obj mv,.obj wo] T Q:=by
 refine call_fn (fd:=fd_new_lists) (by rfl) (by rfl) ?_
 refine (?_:SV _ [some (.obj lo),some (.obj mv),some (.obj wo),none,none] _ _ _)
 k_ownIn
 refine AnyK.mk (.tmp 450) (NewY.intro fun i T₁ hn₁ h₁ c₁=>?_)
 k_ownIn
 refine ForY.split (G:=Option V×List (Row×Nat)) (fun g=>[some (.obj lo),some (.obj mv),some (.obj wo),some (.obj i),g.1]) (fun pre _ g T'=>T'[i]?=some (.tmp 450,.list (g.2.map fun p=>.obj p.2))∧g.2.map (·.1)=pre∧(∀ p∈g.2,T'[p.2]?=some (.tmp 440,.list (newV na p.1.2.2)))∧Chg noX T T') (c₁.keep hlo) (none,[]) ⟨h₁,rfl,fun _ h=>(nomatch h),c₁⟩ ?_ ?_
 ·intro Q' pre r post g_;refine pp2 g_ fun x ps=>?_;rintro T' e ⟨hi,hil,hall,c'⟩ _ q _
  have hrm:r∈rows:=e▸List.mem_append_right _ (.head _)
  have hl:ps.length≤50000:=Nat.le_trans (by rw [←e,←hil,List.length_append,List.length_map];exact Nat.le_add_right _ _) hrl
  k_ownIn
  refine sp_mvals (M.keep0 c') hp hsr hlim (hs r hrm) (hsl r hrm) (c'.keep (R r hrm)) (ha r hrm) fun i₂ T₂ hn₂ h₂ c₂=>?_
  have hi₂:=c₂.keep hi
  k_ownIn
  refine⟨lmL hl,PutY.intro fun T₃ h₃ c₃=>?_⟩
  have c₃':Chg noX T T₃:=c₃.fresh (c'.tr c₂) hn₁
  k_ownIn
  refine q (_,ps++[(r,i₂)]) T₃ ⟨by rw [List.map_append];exact h₃,by rw [List.map_append,hil];rfl,fun p hp=>(List.mem_append.mp hp).elim (fun hp=>c₃.otherK (c₂.keep (hall p hp)) h₃ (by decide)) fun hp=>List.mem_singleton.mp hp▸c₃.otherK h₂ h₃ (by decide),c₃'⟩ (c₃'.keep hlo)
 ·intro g_;refine pp2 g_ fun x ps=>?_;rintro T' ⟨hi,hil,hall,c'⟩ _
  k_ownIn
  exact k i ps T' hn₁ hi hil hall c'
set_option genInjectivity false
noncomputable abbrev rowX (rows:List Row):Nat→K→Prop:=fun i _=>∃ r∈rows,i=r.1
theorem rowX_off {rows:List Row} {wh:Nat→Nat} {T:TH} {i:Nat} {k:K} {o:O} (R:RowsIs wh rows T) (hk:∀ r∈rows,r.2.1=.real∨r.2.1=.slots) (hi:T[i]?=some (k,o)) (h:k≠.real∧k≠.slots):¬ rowX rows i k:=by
 rintro⟨r,hr,rfl⟩
 have:=R r hr
 rw [this] at hi
 have e:r.2.1=k:=congrArg Prod.fst (Option.some.inj hi)
 rcases hk r hr with q|q<;>rw [q] at e
 ·exact h.1 e.symm
 ·exact h.2 e.symm
theorem set_at {α:Type} {A C:List α} {b x:α}:(A++b::C).set A.length x=(A++[x])++C:=by
 rw [List.set_append_right _ _ (Nat.le_refl _),Nat.sub_self,List.append_assoc];rfl
theorem at_mid {α:Type} {l pre post:List α} {a:α} {f:α→V} (e:pre++a::post=l) (hl:l.length≤50000):at? (l.map f) (pre.length:Nat)=some (f a):=by
 subst e
 refine at_nat ?_ (Nat.lt_of_lt_of_le ?_ (Nat.le_trans hl (Nat.le_of_ble_eq_true rfl)))
 ·rw [List.getElem?_map,List.getElem?_append_right (Nat.le_refl _),Nat.sub_self];rfl
 ·rw [List.length_append];exact Nat.lt_add_of_pos_right (Nat.succ_pos _)
theorem put_row {n j lo fo i':Nat} {kr:K} {l:List Spec} {wh:Nat→Nat} {na:Spec→Nat} {r:Nat} {is:List V} {T:TH} {z:Option V} {Q:PS'} (hr:T[r]?=some (kr,.list (l.map (Spec.val wh)))) (hl:l.length≤1000) (hfo:T[fo]?=some (.tmp 450,.list is)) (hj:is[j]?=some (.obj i')) (hjl:j<1000000) (hi:T[i']?=some (.tmp 440,.list (newV na l))) (n1:fo≠r) (n2:i'≠r)
  (k:∀ z T',T'[r]?=some (kr,.list (newV na l))→Chg (oneX r) T T'→Q (none,[some (.obj lo),some (.obj fo),some (.int (j:Nat)),some (.obj r),z]) T') :
  RangeY 4 (fun ρ T Q=>SV (CN n) ρ [.assign (.idx (.loc 3) (.loc 4)) (.idx (.idx (.loc 1) (.loc 2)) (.loc 4))] T Q) Q [some (.obj lo),some (.obj fo),some (.int (j:Nat)),some (.obj r),z] T (.int l.length):=by
 refine RangeY.split (G:=Option V) (fun z=>[some (.obj lo),some (.obj fo),some (.int (j:Nat)),some (.obj r),z]) (fun pre post _ T'=>T'[r]?=some (kr,.list (newV na pre++post.map (Spec.val wh)))∧Chg (oneX r) T T') l (Nat.le_trans hl (Nat.le_of_ble_eq_true rfl)) z ⟨hr,.refl _ _⟩ ?_ ?_
 ·rintro Q' pre s post z T' e ⟨hcur,c⟩ q _
  have hfo':=c.other hfo n1
  have hi':=c.other hi n2
  have hlt:pre.length<(newV na pre++(s::post).map (Spec.val wh)).length:=by unfold newV;rw [List.length_append,List.length_map];exact Nat.lt_add_of_pos_right (Nat.succ_pos _)
  have e2:(newV na pre++(s::post).map (Spec.val wh)).set pre.length (s.valA (na s))=newV na (pre++[s])++post.map (Spec.val wh):=by
   have e3:pre.length=(newV na pre).length:=(List.length_map _).symm
   unfold newV at e3 ⊢
   rw [e3,List.map_cons,set_at,List.map_append];rfl
  have hpl:pre.length<1000000:=Nat.lt_of_le_of_lt (Nat.le_trans (by rw [←e,List.length_append];exact Nat.le_add_right _ _) hl) (Nat.le_of_ble_eq_true rfl)
  clear hr hfo hi
  k_ownIn
  refine IdxY.list (v:=.obj i') hfo' (by exact at_nat hj hjl) ?_
  k_ownIn
  refine IdxY.list (v:=s.valA (na s)) hi' (show at? (newV na l) (pre.length:Nat)=some (s.valA (na s)) from at_mid (f:=fun s:Spec=>s.valA (na s)) e (Nat.le_trans hl (Nat.le_of_ble_eq_true rfl))) ?_
  k_ownIn
  refine IdxPut.list hcur ⟨Int.natCast_nonneg _,Int.ofNat_lt.mpr hlt,Int.ofNat_lt.mpr hpl⟩ (PutY.intro fun T₃ h₃ c₃=>?_)
  k_ownIn
  rw [Int.toNat_natCast,e2] at h₃
  exact q _ T₃ ⟨h₃,c.tr c₃⟩
 ·rintro z T' ⟨hcur,c⟩
  rw [List.map_nil,List.append_nil] at hcur
  exact k z T' hcur c
set_option maxHeartbeats 1000000 in
theorem sp_put {n:Nat} {lo fo:Nat} {klo:K} {T:TH} {rows:List Row} {ps:List (Row×Nat)} {wh:Nat→Nat} {na:Spec→Nat} {Q:V→TH→Prop} (R:RowsIs wh rows T) (hk:∀ r∈rows,r.2.1=.real∨r.2.1=.slots) (hnd:(rows.map (·.1)).Nodup) (hrl:rows.length≤50000) (hsl:∀ r∈rows,r.2.2.length≤1000)
  (hlo:T[lo]?=some (klo,.list (rows.map fun r=>.obj r.1))) (hklo:klo≠.real∧klo≠.slots) (hfo:T[fo]?=some (.tmp 450,.list (ps.map fun p=>.obj p.2))) (hil:ps.map (·.1)=rows) (hall:∀ p∈ps,T[p.2]?=some (.tmp 440,.list (newV na p.1.2.2)))
  (k:∀ T',(∀ r∈rows,T'[r.1]?=some (r.2.1,.list (newV na r.2.2)))→Chg (rowX rows) T T'→Q .none T'):CallY (CN (n+1)) 46 [.obj lo,.obj fo] T Q:=by
 refine call_fn (fd:=fd_put_lists) (by rfl) (by rfl) ?_
 refine (?_:SV _ [some (.obj lo),some (.obj fo),none,none,none] _ _ _)
 have keep:∀ {T':TH} {i:Nat} {k:K} {o:O},Chg (rowX rows) T T'→T[i]?=some (k,o)→k≠.real∧k≠.slots→T'[i]?=some (k,o):=fun c hi h=>c.get hi (rowX_off R hk hi h)
 have inr:∀ p∈ps,p.1∈rows:=fun p hp=>hil▸List.mem_map_of_mem hp
 have hpl:ps.length≤50000:=by rw [←hil,List.length_map] at hrl;exact hrl
 have hlo:T[lo]?=some (klo,.list (ps.map fun p=>.obj p.1.1)):=by rw [hlo,←hil,List.map_map];rfl
 have hnd:(ps.map fun p=>p.1.1).Nodup:=by rw [←hil,List.map_map] at hnd;exact hnd
 k_ownIn
 refine LenY.map hlo hpl ?_
 refine RangeY.split (G:=Option V×Option V×Option V) (fun g=>[some (.obj lo),some (.obj fo),g.1,g.2.1,g.2.2]) (fun pre post _ T'=>(∀ p∈pre,T'[p.1.1]?=some (p.1.2.1,.list (newV na p.1.2.2)))∧(∀ p∈post,T'[p.1.1]?=some (p.1.2.1,.list (p.1.2.2.map (Spec.val wh))))∧Chg (rowX rows) T T') ps (Nat.le_trans hpl (Nat.le_of_ble_eq_true rfl)) (none,none,none) ⟨fun _ h=>(nomatch h),fun p hp=>R _ (inr p hp),.refl _ _⟩ ?_ ?_
 ·intro Q' pre p post g_;refine pp3 g_ fun x y z=>?_;rintro T' e ⟨j1,j2,c⟩ q _
  have hpm:p∈ps:=e▸List.mem_append_right _ (.head _)
  have hrm:=inr p hpm
  have hr:=j2 p (.head _)
  have hlo':=keep c hlo hklo
  have hfo':=keep c hfo (by decide)
  have hi':=keep c (hall p hpm) (by decide)
  have nd:(pre.map (fun p=>p.1.1)++p.1.1::post.map fun p=>p.1.1).Nodup:=by rw [←e,List.map_append,List.map_cons] at hnd;exact hnd
  obtain⟨_,nd2,nd3⟩:=List.nodup_append.mp nd
  have hne:∀ {i:Nat} {k:K} {o:O},T'[i]?=some (k,o)→k≠.real∧k≠.slots→i≠p.1.1:=fun hi h=>ne_kind hi hr ((hk p.1 hrm).elim (fun q=>q▸h.1) fun q=>q▸h.2)
  repeat o_fieldsN
  refine IdxY.list (v:=.obj p.1.1) hlo' (at_mid (f:=fun p:Row×Nat=>.obj p.1.1) e hpl) ?_
  repeat o_fieldsN
  refine LenY.map hr (hsl p.1 hrm) ?_
  refine put_row (i':=p.2) hr (hsl p.1 hrm) hfo' (by subst e;rw [List.getElem?_map,List.getElem?_append_right (Nat.le_refl _),Nat.sub_self];rfl) (Nat.lt_of_le_of_lt (Nat.le_trans (by rw [←e,List.length_append];exact Nat.le_add_right _ _) hpl) (Nat.le_of_ble_eq_true rfl)) hi' (hne hfo' (by decide)) (hne hi' (by decide)) fun z T₂ h₂ c₂=>?_
  k_ownIn
  exact q (_,_,_) T₂ ⟨fun a ha=>(List.mem_append.mp ha).elim (fun ha=>c₂.other (j1 a ha) (nd3 _ (List.mem_map_of_mem ha) _ (.head _))) fun ha=>List.mem_singleton.mp ha▸h₂,fun a ha=>c₂.other (j2 a (.tail _ ha)) fun q=>(List.nodup_cons.mp nd2).1 (q▸List.mem_map_of_mem ha),c.trans c₂ (fun _ _ _ _ q=>q) fun _ _ _ _ q=>⟨p.1,hrm,q⟩⟩
 ·intro g_;refine pp3 g_ fun x y z=>?_;rintro T' ⟨j1,j2,c⟩
  k_ownIn
  refine k T' (fun r hr=>?_) c
  rw [←hil] at hr
  obtain⟨p,hp,rfl⟩:=List.mem_map.mp hr
  exact j1 p hp
set_option genInjectivity false
theorem sp_maddrs {n:Nat} {fo mv:Nat} {kk:K} {T:TH} {Q:V→TH→Prop} (hf:T[fo]?=some (kk,.list [])) (k:∀ i T',T[i]?=none→T'[i]?=some (.fin,.list [])→Chg noX T T'→Q (.obj i) T'):CallY (CN (n+1)) 47 [.obj fo,.obj mv] T Q:=by
 refine call_fn (fd:=fd_moved_addrs) (by rfl) (by rfl) ?_
 show SV _ [some (.obj fo),some (.obj mv),none,none] _ _ _
 k_ownIn
 refine AnyK.mk .fin ?_
 refine NewY.intro ?_
 intro i T₁ hn₁ h₁ c₁
 have hf₁:=c₁.keep hf
 k_ownIn
 k_ownIn
 refine ForY.unroll 9 ?_
 k_ownIn
 refine FV.done hf₁ rfl ?_
 k_ownIn
 exact k i T₁ hn₁ h₁ c₁
theorem sp_stays {n:Nat} {t:Th} {mv gen:Nat} {ml:List (Int×V)} {T:TH} {Q:V→TH→Prop} (ht:T[t.tid]?=some (.th,t.obj)) (hm:T[mv]?=some (.tmp 390,.di ml)) (k:Q (.bool (decide (gen<t.age)||(dget ml (t.addr:Int)).isSome)) T):CallY (CN (n+1)) 43 [.obj t.tid,.obj mv,.int gen] T Q:=by
 refine call_fn (fd:=fd_stays) (by rfl) (by rfl) ?_
 show SV _ [some (.obj t.tid),some (.obj mv),some (.int gen)] _ _ _
 unfold Th.obj at ht
 k_ownIn
 by_cases h:gen<t.age
 ·rw [decide_eq_true h] at k
  k_ownIn
  exact k
 ·rw [decide_eq_false h] at k
  refine⟨fun _=>?_,fun hb=>by simp at hb;omega⟩
  k_ownIn
  refine CmpY.mem_di hm ?_
  k_ownIn
  exact k
noncomputable def Th.aged (t:Th) (a:Nat):Th:={t with addr:=a,age:=if t.age<2 then t.age+1 else t.age}
noncomputable abbrev thX (t:Nat):Nat→K→Prop:=fun i k=>k=.hp∨i=t
theorem sp_settle_old {n:Nat} {hp:Nat} {t:Th} {mv gen:Nat} {T:TH} {Q:V→TH→Prop} (ht:T[t.tid]?=some (.th,t.obj)) (ha:gen<t.age) (k:Q .none T):CallY (CN (n+1)) 48 [.obj hp,.obj t.tid,.obj mv,.int gen] T Q:=by
 refine call_fn (fd:=fd_settle_thing) (by rfl) (by rfl) ?_
 show SV _ [some (.obj hp),some (.obj t.tid),some (.obj mv),some (.int gen),none] _ _ _
 unfold Th.obj at ht
 k_ownIn
 exact k
theorem aged_y {t:Th} {a:Nat} (h:t.age<2):(t.aged a).obj=.inst 0 [.int a,.int t.kind,.obj t.sid,.int (t.age+1:Nat),.int t.size,.int t.ser]:=by
 unfold Th.aged;rw [if_pos h];rfl
theorem aged_n {t:Th} {a:Nat} (h:¬ t.age<2):(t.aged a).obj=.inst 0 [.int a,.int t.kind,.obj t.sid,.int t.age,.int t.size,.int t.ser]:=by
 unfold Th.aged;rw [if_neg h];rfl
theorem settle_end {n:Nat} {t:Th} {mv gen a hp:Nat} {T:TH} {Q:PS'} (ht:T[t.tid]?=some (.th,t.obj)) (k:∀ T',T'[t.tid]?=some (.th,(t.aged a).obj)→Chg (oneX t.tid) T T'→Q (none,[some (.obj hp),some (.obj t.tid),some (.obj mv),some (.int gen),some (.int a)]) T') :
  SV (CN n) [some (.obj hp),some (.obj t.tid),some (.obj mv),some (.int gen),some (.int a)] (fd_settle_thing.body.drop 3) T Q:=by
 unfold Th.obj at ht
 k_ownIn
 rename_i T₁ h₁ c₁
 by_cases hlt:t.age<2
 ·k_ownIn
  rename_i T₂ h₂ c₂
  exact k T₂ (aged_y hlt▸h₂) c₂
 ·k_ownIn
  exact k T₁ (aged_n hlt▸h₁) c₁
theorem sp_settle_young {n:Nat} {h:Hid} {f:Hn} {top:Nat} {t:Th} {mv gen a:Nat} {ml:List (Int×V)} {T:TH} {Q:V→TH→Prop} (hh:T[h.hp]?=some (.hp,hpObj h f top)) (ht:T[t.tid]?=some (.th,t.obj)) (hm:T[mv]?=some (.tmp 390,.di ml)) (ha:t.age≤gen) (hg:dget ml (t.addr:Int)=some (.int a))
  (k:∀ m T',T'[h.hp]?=some (.hp,hpObj h {f with moved:=m} top)→T'[t.tid]?=some (.th,(t.aged a).obj)→Chg (thX t.tid) T T'→Q .none T'):CallY (CN (n+1)) 48 [.obj h.hp,.obj t.tid,.obj mv,.int gen] T Q:=by
 refine call_fn (fd:=fd_settle_thing) (by rfl) (by rfl) ?_
 refine (?_:SV _ [some (.obj h.hp),some (.obj t.tid),some (.obj mv),some (.int gen),none] _ _ _)
 have ht':=ht
 unfold Th.obj at ht'
 have fin:∀ {m:Int} {T₁},T₁[h.hp]?=some (.hp,hpObj h {f with moved:=m} top)→Chg (oneX h.hp) T T₁→SV (CN n) [some (.obj h.hp),some (.obj t.tid),some (.obj mv),some (.int gen),some (.int a)] (fd_settle_thing.body.drop 3) T₁ (fun r T=>Q (r.1.getD .none) T):=fun {m T₁} h₁ c₁ =>
  settle_end (c₁.otherK ht h₁ (by decide)) fun T₂ h₂ c₂=>k m T₂ (c₂.otherK h₁ h₂ (by decide)) h₂ (c₁.trans c₂ (fun i kk o hi q=>.inl (by rw [show i=h.hp from q] at hi;exact same_kind hi hh)) fun _ _ _ _ q=>.inr q)
 clear k
 unfold hpObj at hh
 k_ownIn
 by_cases e:a=t.addr
 ·refine IdxY.di hm hg ?_
  repeat first|exact fin (m:=f.moved) hh (.refl _ _)|o_fieldsN|k_caught0
 ·refine IdxY.di hm hg ?_
  repeat first|exact fin (m:=f.moved+1) ‹_› ‹_›|o_fieldsN|k_caught0
set_option genInjectivity false
noncomputable def agedL:Nat→List Th→List Th
 | _,[]=>[]
 | g,t::r=>t.aged g::agedL (g+t.size) r
theorem agedL_length:∀ {ys:List Th} {g:Nat},(agedL g ys).length=ys.length
 | [],_=>rfl
 | _::ys,g=>congrArg (·+1) agedL_length
theorem aged_size {t:Th} {a:Nat}:(t.aged a).size=t.size:=rfl
theorem agedL_packed:∀ {ys:List Th} {g:Nat},Packed g (agedL g ys)
 | [],_=>trivial
 | t::ys,g=>⟨rfl,agedL_packed (ys:=ys) (g:=g+t.size)⟩
theorem agedL_get:∀ {ys:List Th} {g j:Nat} {t:Th},ys[j]?=some t→(agedL g ys)[j]?=some (t.aged (g+((ys.take j).map Th.size).sum))
 | t::ys,g,0,_,h=>by simp at h;subst h;simp [agedL]
 | u::ys,g,j+1,t,h=>by
  show (agedL (g+u.size) ys)[j]?=_
  rw [agedL_get (ys:=ys) (by simpa using h),List.take_succ_cons,List.map_cons,List.sum_cons]
  rw [show g+u.size+((ys.take j).map Th.size).sum=g+(u.size+((ys.take j).map Th.size).sum) by lia]
theorem mov_get:∀ {ys:List Th} {g j:Nat} {t:Th},Apart ys→ys[j]?=some t→dget (mov g ys) (t.addr:Int)=some (.int (g+((ys.take j).map Th.size).sum:Nat))
 | t::ys,g,0,_,ha,h=>by simp at h;subst h;simp [mov,dget]
 | u::ys,g,j+1,t,ha,h=>by
  have hlt:=apart_lt ha (i:=0) (j:=j+1) rfl h (by lia)
  have:=u.size_pos
  show dget (((u.addr:Int),V.int g)::mov (g+u.size) ys) _=_
  unfold dget
  rw [if_neg (by simp;lia),mov_get (List.Pairwise.of_cons ha) (by simpa using h),List.take_succ_cons,List.map_cons,List.sum_cons]
  rw [show g+u.size+((ys.take j).map Th.size).sum=g+(u.size+((ys.take j).map Th.size).sum) by lia]
theorem mov_none:∀ {ys:List Th} {g:Nat} {x:Int},(∀ t∈ys,(t.addr:Int)≠x)→dget (mov g ys) x=none
 | [],_,_,_=>rfl
 | u::ys,g,x,h=>by
  show dget (((u.addr:Int),V.int g)::mov (g+u.size) ys) _=_
  unfold dget
  rw [if_neg (by simpa using h u (.head _))]
  exact mov_none fun t ht=>h t (.tail _ ht)
theorem Packed.append:∀ {x y:List Th} {a:Nat},Packed a (x++y) ↔ Packed a x∧Packed (a+(x.map Th.size).sum) y
 | [],y,a=>by simp [Packed]
 | t::x,y,a=>by
  rw [List.cons_append]
  show t.addr=a∧Packed (a+t.size) (x++y) ↔ (t.addr=a∧Packed (a+t.size) x)∧_
  rw [Packed.append,List.map_cons,List.sum_cons,and_assoc,Nat.add_assoc]
noncomputable def youngL (gen:Nat) (ms ts:List Th):List Th:=ts.filter (inY gen ms)
noncomputable def nextL (gen:Nat) (ms os rs:List Th):List Th:=os++agedL (endOf os) (youngL gen ms (os++rs))
noncomputable def keptL (gen:Nat) (ms os rs:List Th):List Th:=os++youngL gen ms (os++rs)
theorem nextL_packed {gen:Nat} {ms os rs:List Th} (hp:Packed 16 (os++rs)):Packed 16 (nextL gen ms os rs):=Packed.append.mpr ⟨(Packed.append.mp hp).1,agedL_packed⟩
theorem young_apart {gen:Nat} {ms ts:List Th} (ha:Apart ts):Apart (youngL gen ms ts):=List.Pairwise.sublist List.filter_sublist ha
theorem mem_young {gen:Nat} {ms ts:List Th} {t:Th}:t∈youngL gen ms ts ↔ t∈ts∧t.age≤gen∧t∈ms:=by
 unfold youngL inY;rw [List.mem_filter];simp
theorem stay_iff {gen:Nat} {ms ts:List Th} {g:Nat} (ha:Apart ts) {t:Th} (ht:t∈ts):(decide (gen<t.age)||(dget (mov g (youngL gen ms ts)) (t.addr:Int)).isSome)=(decide (gen<t.age)||inY gen ms t):=by
 congr 1
 by_cases h:inY gen ms t=true
 ·have hm:t∈youngL gen ms ts:=List.mem_filter.mpr ⟨ht,h⟩
  obtain⟨j,hj⟩:=List.getElem?_of_mem hm
  rw [mov_get (young_apart ha) hj,h];rfl
 ·rw [mov_none,Bool.eq_false_iff.mpr h]
  ·rfl
  ·intro u hu e
   have hu':=List.mem_filter.mp hu
   have:u=t:=addr_inj ha hu'.1 ht (by lia)
   subst this
   exact h hu'.2
theorem filter_stay {gen:Nat} {ms os rs:List Th} (ho:∀ t∈os,gen<t.age) (hr:∀ t∈rs,t.age≤gen):(os++rs).filter (fun t=>decide (gen<t.age)||inY gen ms t)=keptL gen ms os rs:=by
 unfold keptL youngL
 have e1:os.filter (fun t=>decide (gen<t.age)||inY gen ms t)=os:=List.filter_eq_self.mpr fun t ht=>by simp [ho t ht]
 have e2:os.filter (inY gen ms)=[]:=List.filter_eq_nil_iff.mpr fun t ht=>by have:=ho t ht;simp [inY];omega
 have e3:rs.filter (fun t=>decide (gen<t.age)||inY gen ms t)=rs.filter (inY gen ms):=List.filter_congr fun t ht=>by have:=hr t ht;simp;omega
 rw [List.filter_append,List.filter_append,e1,e2,e3,List.nil_append]
theorem kept_get {gen:Nat} {ms os rs:List Th} (hp:Packed 16 (os++rs)) (ho:∀ t∈os,gen<t.age) {j:Nat} {t:Th} (h:(keptL gen ms os rs)[j]?=some t) :
  (gen<t.age∧(nextL gen ms os rs)[j]?=some t)∨(t.age≤gen∧∃ a,dget (mov (endOf os) (youngL gen ms (os++rs))) (t.addr:Int)=some (.int (a:Nat))∧(nextL gen ms os rs)[j]?=some (t.aged a)):=by
 unfold keptL at h
 unfold nextL
 rcases Nat.lt_or_ge j os.length with hj|hj
 ·rw [List.getElem?_append_left hj] at h ⊢
  exact .inl ⟨ho t (List.mem_of_getElem? h),h⟩
 ·rw [List.getElem?_append_right hj] at h ⊢
  exact .inr ⟨(mem_young.mp (List.mem_of_getElem? h)).2.1,_,mov_get (young_apart hp.apart) h,agedL_get h⟩
set_option genInjectivity false
theorem kept_mem {gen:Nat} {ms os rs:List Th} {t:Th} (h:t∈keptL gen ms os rs):t∈os++rs:=by
 rcases List.mem_append.mp h with h|h
 ·exact List.mem_append_left _ h
 ·exact (mem_young.mp h).1
theorem next_length {gen:Nat} {ms os rs:List Th}:(nextL gen ms os rs).length=(keptL gen ms os rs).length:=by
 unfold nextL keptL;rw [List.length_append,List.length_append,agedL_length]
theorem kept_le {gen:Nat} {ms os rs:List Th} (ho:∀ t∈os,gen<t.age) (hr:∀ t∈rs,t.age≤gen):(keptL gen ms os rs).length≤(os++rs).length:=by
 rw [←filter_stay ho hr];exact List.length_filter_le _ _
theorem sp_settle_any {n:Nat} {h:Hid} {f:Hn} {top:Nat} {t t':Th} {mv gen:Nat} {ml:List (Int×V)} {T:TH} {Q:V→TH→Prop} (hh:T[h.hp]?=some (.hp,hpObj h f top)) (ht:T[t.tid]?=some (.th,t.obj)) (hm:T[mv]?=some (.tmp 390,.di ml))
  (hc:(gen<t.age∧t'=t)∨(t.age≤gen∧∃ a,dget ml (t.addr:Int)=some (.int (a:Nat))∧t'=t.aged a)) (k:∀ m T',T'[h.hp]?=some (.hp,hpObj h {f with moved:=m} top)→T'[t.tid]?=some (.th,t'.obj)→Chg (thX t.tid) T T'→Q .none T'):CallY (CN (n+1)) 48 [.obj h.hp,.obj t.tid,.obj mv,.int gen] T Q:=by
 rcases hc with ⟨h1,rfl⟩|⟨h1,a,h2,rfl⟩
 ·exact sp_settle_old ht h1 (k f.moved T hh ht (.refl _ _))
 ·exact sp_settle_young hh ht hm h1 h2 k
theorem kept_sub {gen:Nat} {ms os rs:List Th} (ho:∀ t∈os,gen<t.age) (hr:∀ t∈rs,t.age≤gen):(keptL gen ms os rs).Sublist (os++rs):=by
 rw [←filter_stay ho hr];exact List.filter_sublist
theorem map_get_ne {α β:Type} {l:List α} {f:α→β} (hn:(l.map f).Nodup) {i j:Nat} {a b:α} (hi:l[i]?=some a) (hj:l[j]?=some b) (h:i≠j):f a≠f b:=fun e=>by
 have h1:(l.map f)[i]?=some (f b):=by rw [List.getElem?_map,hi];exact congrArg some e
 have h2:(l.map f)[j]?=some (f b):=by rw [List.getElem?_map,hj];rfl
 obtain⟨p1,e1⟩:=List.getElem?_eq_some_iff.mp h1
 obtain⟨p2,e2⟩:=List.getElem?_eq_some_iff.mp h2
 have hp:=List.pairwise_iff_getElem.mp hn
 rcases Nat.lt_trichotomy i j with q|q|q
 ·exact hp i j p1 p2 q (e1.trans e2.symm)
 ·exact h q
 ·exact hp j i p2 p1 q (e2.trans e1.symm)
theorem kept_pairs {gen:Nat} {ms os rs:List Th} (hp:Packed 16 (os++rs)) (ho:∀ t∈os,gen<t.age):∃ L:List (Th×Th),keptL gen ms os rs=L.map (·.1)∧nextL gen ms os rs=L.map (·.2) ∧
  ∀ p∈L,p.2.tid=p.1.tid∧((gen<p.1.age∧p.2=p.1)∨(p.1.age≤gen∧∃ a,dget (mov (endOf os) (youngL gen ms (os++rs))) (p.1.addr:Int)=some (.int (a:Nat))∧p.2=p.1.aged a)):=by
 refine⟨(keptL gen ms os rs).zip (nextL gen ms os rs),(List.map_fst_zip (Nat.le_of_eq next_length.symm)).symm,(List.map_snd_zip (Nat.le_of_eq next_length)).symm,fun p h=>?_⟩
 obtain⟨j,hj⟩:=List.getElem?_of_mem h
 obtain⟨h1,h2⟩:=List.getElem?_zip_eq_some.mp hj
 rcases kept_get hp ho h1 with ⟨q1,q2⟩|⟨q1,a,q2,q3⟩
 ·have e:p.2=p.1:=Option.some.inj (h2.symm.trans q2)
  exact⟨congrArg Th.tid e,.inl ⟨q1,e⟩⟩
 ·have e:p.2=p.1.aged a:=Option.some.inj (h2.symm.trans q3)
  exact⟨(congrArg Th.tid e).trans rfl,.inr ⟨q1,a,q2,e⟩⟩
structure StI (h:Hid) (f:Hn) (pre post:List (Th×Th)) (m:Int) (T₀ T:TH):Prop where
 hp:T[h.hp]?=some (.hp,hpObj h {f with moved:=m} (endOf (pre.map (·.2))))
 at_:T[h.at_]?=some (.at_,.di (atOf (pre.map (·.2))))
 old:∀ p∈pre,T[p.1.tid]?=some (.th,p.2.obj)
 new:∀ p∈post,T[p.1.tid]?=some (.th,p.1.obj)
 c:Chg (ksX [.hp,.th]) T₀ T
theorem at_new {ts:List Th} {t:Th} {r:List Th} (h:Packed 16 (ts++t::r)):t.addr=endOf ts∧∀ p∈atOf ts,p.1≠(t.addr:Int):=by
 have e:t.addr=endOf ts:=h.split
 refine⟨e,fun p hp=>?_⟩
 obtain⟨u,hu,rfl⟩:=List.mem_map.mp hp
 rw [e]
 exact fun q=>Nat.ne_of_lt ((Packed.append.mp h).1.lt_end u hu) (Int.ofNat.inj q)
set_option maxHeartbeats 1000000 in
theorem settle_loop {n gen mv:Nat} {h:Hid} {f:Hn} {L:List (Th×Th)} {ml:List (Int×V)} {T₀ T:TH} {x:Option V} {Q:PS'} (J:StI h f [] L f.moved T₀ T) (hL:T[h.tl]?=some (.tl,.list (L.map fun p=>.obj p.1.tid))) (hmv:T₀[mv]?=some (.tmp 390,.di ml)) (hn:T₀[h.at_]?=none) (hh:∃ o,T₀[h.hp]?=some (.hp,o)) (ht:∀ p∈L,∃ o,T₀[p.1.tid]?=some (.th,o))
  (nd:(L.map fun p=>p.1.tid).Nodup) (np:Packed 16 (L.map (·.2))) (hs:∀ p∈L,p.2.tid=p.1.tid∧((gen<p.1.age∧p.2=p.1)∨(p.1.age≤gen∧∃ a,dget ml (p.1.addr:Int)=some (.int (a:Nat))∧p.2=p.1.aged a))) (hl:L.length≤50000)
  (k:∀ m ρ T',StI h f L [] m T₀ T'→T'[h.tl]?=some (.tl,.list (L.map fun p=>.obj p.1.tid))→Q (none,ρ) T') :
  SV (CN (n+1)) [some (.obj h.hp),some (.obj mv),some (.int gen),some (.obj h.tl),x] (fd_settle_things.body.drop 5) T Q:=by
 k_ownIn
 refine ForY.split (G:=Int×Option V) (fun g=>[some (.obj h.hp),some (.obj mv),some (.int gen),some (.obj h.tl),g.2]) (fun pre post g T=>StI h f pre post g.1 T₀ T) hL (_,x) J ?_ fun g T' J hL=>?_
 ·intro Q' pre p post g T₁ e J hl₁ q _
  have hpm:p∈L:=e▸List.mem_append_right _ (.head _)
  obtain⟨et,hc⟩:=hs p hpm
  have np':Packed 16 (pre.map (·.2)++p.2::post.map (·.2)):=by rw [←List.map_cons,←List.map_append,e];exact np
  obtain⟨e1,e2⟩:=at_new np'
  have hpl:pre.length≤50000:=by rw [←e,List.length_append] at hl;exact Nat.le_trans (Nat.le_add_right _ _) hl
  have nd:(pre.map (fun p=>p.1.tid)++p.1.tid::post.map fun p=>p.1.tid).Nodup:=by rw [←e,List.map_append,List.map_cons] at nd;exact nd
  obtain⟨_,nd2,nd3⟩:=List.nodup_append.mp nd
  have n1:∀ a∈pre,a.1.tid≠p.1.tid:=fun a ha=>nd3 _ (List.mem_map_of_mem ha) _ (.head _)
  have n2:∀ a∈post,a.1.tid≠p.1.tid:=fun a ha q=>(List.nodup_cons.mp nd2).1 (q▸List.mem_map_of_mem ha)
  have hth:=J.new p (.head _)
  have nt:∀ {i:Nat} {k:K} {o:O},T₁[i]?=some (k,o)→k≠.th→k≠.hp→¬ thX p.1.tid i k:=fun hi q1 q2 q=>q.elim q2 fun q=>q1 (same_kind hi (q▸hth))
  k_ownIn
  refine sp_settle_any (h:=h) J.hp hth (J.c.get hmv (nk (by decide))) hc fun m' T₂ g1 g2 c₂=>?_
  have ha₂:=c₂.get J.at_ (nt J.at_ (by decide) (by decide))
  have hl₂:=c₂.get hl₁ (nt hl₁ (by decide) (by decide))
  have J1:∀ a∈pre,T₂[a.1.tid]?=some (.th,a.2.obj):=fun a ha=>c₂.get (J.old a ha) fun q=>q.elim (fun q=>nomatch q) (n1 a ha)
  have J2:∀ a∈post,T₂[a.1.tid]?=some (.th,a.1.obj):=fun a ha=>c₂.get (J.new a (.tail _ ha)) fun q=>q.elim (fun q=>nomatch q) (n2 a ha)
  have cc:Chg (ksX [.hp,.th]) T₀ T₂:=c₂.back J.c fun i k o hi q=>q.elim (fun q=>q▸.head _) fun q=>by
   obtain⟨o',h'⟩:=ht p hpm
   rw [q] at hi
   exact same_kind h' hi▸.tail _ (.head _)
  clear c₂ J hl₁ nt hth nd nd2 nd3 n1 n2
  k_ownIn
  refine IdxPut.di ha₂ (lmL (mpL hpl)) ?_
  rw [show dput (atOf (pre.map (·.2))) (p.2.addr:Int) (.obj p.1.tid)=atOf ((pre++[p]).map (·.2)) by rw [dput_new e2,List.map_append];unfold atOf;rw [List.map_append,←et];rfl]
  refine PutY.intro fun T₃ h₃ c₃=>?_
  have g1:=c₃.otherK g1 h₃ (by decide)
  have g2:=c₃.otherK g2 h₃ (by decide)
  k_ownIn
  rename_i T₄ h₄ c₄
  have pass:∀ {i:Nat} {o:O},T₂[i]?=some (.th,o)→T₄[i]?=some (.th,o):=fun hi=>c₄.otherK (c₃.otherK hi h₃ (by decide)) h₄ (by decide)
  refine q (m',_) T₄ ⟨?_,c₄.otherK h₃ h₄ (by decide),fun a ha=>(List.mem_append.mp ha).elim (fun ha=>pass (J1 a ha)) fun ha=>List.mem_singleton.mp ha▸c₄.otherK g2 h₄ (by decide),fun a ha=>pass (J2 a ha),?_⟩ (c₄.otherK (c₃.otherK hl₂ h₃ (by decide)) h₄ (by decide))
  ·rw [List.map_append,List.map_singleton,endOf_snoc,←e1];exact h₄
  ·exact c₄.back (c₃.fresh cc hn) fun i k o hi q=>by
    obtain⟨o',h'⟩:=hh
    rw [show i=h.hp from q] at hi
    exact same_kind h' hi▸.head _
 ·k_ownIn
  exact k g.1 _ T' J hL
set_option maxHeartbeats 1000000 in
theorem sp_settle {n:Nat} {h:Hid} {os rs ms:List Th} {f:Hn} {gen mv:Nat} {T:TH} {Q:V→TH→Prop} (hb:HB h (os++rs) f T) (hp:Packed 16 (os++rs)) (ho:∀ t∈os,gen<t.age) (hr:∀ t∈rs,t.age≤gen) (hlim:(os++rs).length≤50000) (htid:((os++rs).map Th.tid).Nodup)
  (hmv:T[mv]?=some (.tmp 390,.di (mov (endOf os) (youngL gen ms (os++rs))))) (k:∀ tl' at' m T',HB {h with tl:=tl',at_:=at'} (nextL gen ms os rs) {f with moved:=m} T'→Chg (ksX [.hp,.th]) T T'→Q .none T') :
  CallY (CN (n+2)) 49 [.obj h.hp,.obj mv,.int gen] T Q:=by
 refine call_fn (fd:=fd_settle_things) (by rfl) (by rfl) ?_
 refine (?_:SV _ [some (.obj h.hp),some (.obj mv),some (.int gen),none,none] _ _ _)
 k_ownIn
 refine AnyK.mk .tl (NewY.intro fun lv T₁ hn₁ h₁ c₁=>?_)
 have b1:=c₁.keep hb.hp
 have b2:=c₁.keep hb.tl
 unfold hpObj at b1
 k_ownIn
 have hf:=filter_stay (ms:=ms) ho hr
 refine ForY.app1 (id':=Th.tid) (p:=fun t=>decide (gen<t.age)||inY gen ms t) (f:=fun x=>[some (.obj h.hp),some (.obj mv),some (.int gen),some (.obj lv),x]) 0 50000 b2 h₁ (ne_none hb.tl hn₁) (Nat.le_refl 0) hlim none ?_ ?_
 ·intro Q' t rows x T₂ htm hl hO c₂ y q
  have c:=c₂.fresh c₁ hn₁
  k_ownIn
  refine sp_stays (c.keep (hb.th t htm)) (c.keep hmv) ?_
  rw [stay_iff hp.apart htm]
  cases hst:(decide (gen<t.age)||inY gen ms t) with
  | true =>
   k_ownIn
   refine⟨limL' hl,PutY.tr c₂ fun T₃ h₃ c₃=>?_⟩
   k_ownIn
   exact y hst _ T₃ h₃ c₃
  | false =>
   k_ownIn
   exact q hst _
 ·intro x T₂ hl c₂
  rw [hf] at hl
  have c:=c₂.fresh c₁ hn₁
  have b1:=c.keep hb.hp
  unfold hpObj at b1
  clear b2 h₁
  k_ownIn
  refine AnyK.mk .at_ (NewY.intro fun at' T₄ hn₄ h₄ c₄=>?_)
  k_ownIn
  rename_i T₃ h₃ c₃ _ _ _ T₅ h₅ c₅
  obtain⟨L,eL,eN,hs⟩:=kept_pairs (ms:=ms) hp ho
  have q:OffP [5,11,12] T₂ T₅:=(OffP.one c₃ h₃).tr ((OffP.no c₄).tr (.one c₅ h₅))
  have sub:=kept_sub (ms:=ms) ho hr
  rw [eL] at hl sub
  rw [List.map_map] at hl
  have hm:∀ p∈L,p.1∈os++rs:=fun p hp=>sub.subset (List.mem_map_of_mem hp)
  have np:=nextL_packed (gen:=gen) (ms:=ms) hp
  rw [eN] at np
  refine settle_loop (h:={h with tl:=lv,at_:=at'}) (f:=f) (T₀:=T) ⟨h₅,c₅.otherK h₄ h₅ (by decide),fun _ h=>(nomatch h),fun p hp=>q.g (c.keep (hb.th _ (hm p hp))) rfl,?_⟩ (q.g hl rfl) hmv (none_back (none_back hn₄ (c₃.weaken fun _ _ _=>trivial)) (c.weaken fun _ _ _=>trivial)) ⟨_,hb.hp⟩ (fun p hp=>⟨_,hb.th _ (hm p hp)⟩) ((List.map_map (f:=Prod.fst) (g:=Th.tid) (l:=L))▸List.Pairwise.sublist (sub.map _) htid) np hs (by
   have:=sub.length_le
   rw [List.length_map] at this;exact Nat.le_trans this hlim) fun m ρ T₆ J hl=>?_
  ·have hh:=hb.hp
   exact c₅.back (c₄.back (c₃.back (c.weaken fun _ _ h=>h.elim) (side_kind hh (by decide))) side_no) (side_kind hh (by decide))
  ·refine k lv at' m T₆ ?_ J.c
   rw [eN]
   refine⟨J.hp,?_,J.at_,J.c.get hb.cd (nk (by decide)),J.c.get hb.fin (nk (by decide)),J.c.get hb.rdy (nk (by decide)),fun t ht=>?_⟩
   ·rw [List.map_map,←List.map_congr_left (f:=fun p:Th×Th=>V.obj p.1.tid) fun p hp=>by rw [←(hs p hp).1];rfl];exact hl
   ·obtain⟨p,hp,rfl⟩:=List.mem_map.mp ht
    rw [(hs p hp).1];exact J.old p hp
set_option genInjectivity false
theorem sers_of {ts:List Th} (h:(ts.map Th.ser).Nodup):Sers ts:=by
 intro a ha b hb e
 obtain⟨i,hi⟩:=List.getElem?_of_mem ha
 obtain⟨j,hj⟩:=List.getElem?_of_mem hb
 by_cases q:i=j
 ·subst q;rw [hi] at hj;cases hj;rfl
 ·exact absurd e (map_get_ne h hi hj q)
theorem next_map {α:Type} {g:Th→α} (hg:∀ t a,g (Th.aged t a)=g t) {gen:Nat} {ms os rs:List Th}:(nextL gen ms os rs).map g=(keptL gen ms os rs).map g:=by
 unfold nextL keptL
 rw [List.map_append,List.map_append]
 congr 1
 generalize endOf os=n
 generalize youngL gen ms (os++rs)=ys
 induction ys generalizing n with
 | nil=>rfl
 | cons t ys ih=>show g (t.aged n)::(agedL (n+t.size) ys).map g=g t::_;rw [hg,ih]
theorem next_sers {gen:Nat} {ms os rs:List Th} (ho:∀ t∈os,gen<t.age) (hr:∀ t∈rs,t.age≤gen) (h:((os++rs).map Th.ser).Nodup):((nextL gen ms os rs).map Th.ser).Nodup:=by
 rw [next_map fun _ _=>rfl]
 exact List.Pairwise.sublist ((kept_sub ho hr).map _) h
noncomputable def newA (next:List Th) (s:Spec):Nat:=(tgt next s).elim 0 Th.addr
theorem newV_val {next:List Th} {l:List Spec}:newV (newA next) l=l.map (Spec.val (whOf next)):=by
 unfold newV newA
 exact List.map_congr_left fun s _=>by rw [val_tgt]
theorem mvd_of {gen:Nat} {ms os rs:List Th} (hp:Packed 16 (os++rs)) (ho:∀ t∈os,gen<t.age) (hr:∀ t∈rs,t.age≤gen) (hsr:((os++rs).map Th.ser).Nodup) {s:Spec} (hs:s.Ok (os++rs)) (hk:∀ v,tgt (os++rs) s=some v→v∈keptL gen ms os rs) :
  mvd (mov (endOf os) (youngL gen ms (os++rs))) ((tgt (os++rs) s).elim 0 Th.addr) (newA (nextL gen ms os rs) s):=by
 unfold newA
 cases q:tgt (os++rs) s with
 | none =>
  have h0:=tgt_none hs q
  have e:tgt (nextL gen ms os rs) s=none:=by unfold tgt;rw [if_neg (by lia)]
  rw [e]
  unfold mvd
  rw [mov_none fun t ht=>by have:=hp.mem t (mem_young.mp ht).1;simp;lia]
  rfl
 | some v =>
  obtain⟨hv,h0,hvs⟩:=tgt_mem q
  obtain⟨j,hj⟩:=List.getElem?_of_mem (hk v q)
  have hns:=sers_of (next_sers (ms:=ms) ho hr hsr)
  rcases kept_get hp ho hj with ⟨h1,h2⟩|⟨h1,a,h2,h3⟩
  ·rw [tgt_of hns h0 (List.mem_of_getElem? h2) hvs]
   unfold mvd
   dsimp only [Option.elim]
   rw [mov_none fun t ht=>fun e=>by
    have ht':=mem_young.mp ht
    have:t=v:=addr_inj hp.apart ht'.1 hv (by lia)
    subst this;lia]
   rfl
  ·rw [tgt_of hns h0 (List.mem_of_getElem? h3) hvs]
   unfold mvd
   dsimp only [Option.elim]
   rw [h2];rfl
theorem sp_Words {n:Nat} {wo:Nat} {a b:V} {T:TH} {Q:V→TH→Prop} (h0:T[wo]?=some (.tmp 500,.inst 3 [])) (k:∀ T',T'[wo]?=some (.tmp 500,.inst 3 [a,b])→Chg (oneX wo) T T'→Q .none T'):CallY (CN (n+1)) 40 [.obj wo,a,b] T Q:=by
 refine call_fn (fd:=fd_Words_init) (by rfl) (by rfl) ?_
 show SV _ [some (.obj wo),some a,some b] _ _ _
 k_ownIn
 exact k _ ‹_› ‹_›
noncomputable def realR (r:Nat×List Spec):Row:=(r.1,.real,r.2)
noncomputable def slotR (t:Th):Row:=(t.sid,.slots,t.specs)
theorem HB.rows {h:Hid} {ts:List Th} {f:Hn} {rows:List Row} {wh:Nat→Nat} {T T':TH} (b:HB h ts f T) (R:RowsIs wh rows T) (hk:∀ r∈rows,r.2.1=.real∨r.2.1=.slots) (c:Chg (rowX rows) T T') (hr:T'[h.rdy]?=some (.real,.list [])):HB h ts f T' :=
 ⟨c.get b.hp (rowX_off R hk b.hp (by decide)),c.get b.tl (rowX_off R hk b.tl (by decide)),c.get b.at_ (rowX_off R hk b.at_ (by decide)),c.get b.cd (rowX_off R hk b.cd (by decide)),c.get b.fin (rowX_off R hk b.fin (by decide)),hr,fun t ht=>c.get (b.th t ht) (rowX_off R hk (b.th t ht) (by decide))⟩
noncomputable def allR (rdy:Nat) (rows:List (Nat×List Spec)) (kept:List Th):List Row:=rows.map realR++[(rdy,.real,[])]++kept.map slotR
theorem allR_all {rdy:Nat} {rows:List (Nat×List Spec)} {kept:List Th} {P:Row→Prop} (h1:∀ r∈rows,P (realR r)) (h2:P (rdy,.real,[])) (h3:∀ t∈kept,P (slotR t)):∀ r∈allR rdy rows kept,P r:=fun r hr=>by
 rcases List.mem_append.mp hr with q|q
 ·rcases List.mem_append.mp q with q|q
  ·obtain⟨r',h,rfl⟩:=List.mem_map.mp q;exact h1 r' h
  ·exact List.mem_singleton.mp q▸h2
 ·obtain⟨t,h,rfl⟩:=List.mem_map.mp q;exact h3 t h
theorem allR_ids {rdy:Nat} {rows:List (Nat×List Spec)} {kept:List Th}:(allR rdy rows kept).map (fun r=>V.obj r.1)=(rows.map (fun r=>V.obj r.1)++[V.obj rdy])++kept.map fun t=>V.obj t.sid:=by
 unfold allR
 rw [List.map_append,List.map_append,List.map_map,List.map_map];rfl
theorem allR_nodup {rdy:Nat} {rows:List (Nat×List Spec)} {kept:List Th} {T:TH} (hn:(rows.map (·.1)).Nodup) (hd:rdy∉rows.map (·.1)) (hs:(kept.map Th.sid).Nodup) (R:∀ r∈rows,∃ o,T[r.1]?=some (.real,o)) (rd:∃ o,T[rdy]?=some (.real,o)) (S:∀ t∈kept,∃ o,T[t.sid]?=some (.slots,o)):((allR rdy rows kept).map (·.1)).Nodup:=by
 have e:(allR rdy rows kept).map (·.1)=(rows.map (·.1)++[rdy])++kept.map Th.sid:=by
  unfold allR
  rw [List.map_append,List.map_append,List.map_map,List.map_map];rfl
 rw [e]
 refine List.nodup_append.mpr ⟨List.nodup_append.mpr ⟨hn,List.pairwise_singleton ..,fun a ha b hb e=>hd (List.mem_singleton.mp hb▸e▸ha)⟩,hs,fun a ha b hb e=>?_⟩
 obtain⟨t,ht,rfl⟩:=List.mem_map.mp hb
 obtain⟨o,h1⟩:=S t ht
 have h2:∃ o',T[a]?=some (.real,o'):=by
  rcases List.mem_append.mp ha with q|q
  ·obtain⟨r,hr,rfl⟩:=List.mem_map.mp q;exact R r hr
  ·exact List.mem_singleton.mp q▸rd
 obtain⟨o',h2⟩:=h2
 rw [e] at h2
 exact absurd (same_kind h1 h2) (by decide)
theorem kept_image' {gen:Nat} {ms os rs:List Th} (hp:Packed 16 (os++rs)) (ho:∀ t∈os,gen<t.age) {t':Th} (h:t'∈nextL gen ms os rs):∃ t∈keptL gen ms os rs,t'.sid=t.sid∧t'.specs=t.specs:=by
 obtain⟨L,eL,eN,hs⟩:=kept_pairs (ms:=ms) hp ho
 rw [eN] at h
 obtain⟨p,hp,rfl⟩:=List.mem_map.mp h
 refine⟨p.1,eL▸List.mem_map_of_mem hp,?_⟩
 rcases (hs p hp).2 with ⟨_,e⟩|⟨_,a,_,e⟩
 ·rw [e];exact⟨rfl,rfl⟩
 ·rw [e];exact⟨rfl,rfl⟩
set_option maxHeartbeats 2000000 in
theorem move_tail {n:Nat} {h:Hid} {os rs ms:List Th} {f:Hn} {gen mv lo wo ev:Nat} {rows:List (Nat×List Spec)} {T:TH} {x y:Option V} {Q:PS'} (M:MV h (os++rs) f mv wo (mov (endOf os) (youngL gen ms (os++rs))) T) (S:SL (os++rs) T) (hp:Packed 16 (os++rs)) (ho:∀ t∈os,gen<t.age) (hr:∀ t∈rs,t.age≤gen) (hlim:(os++rs).length≤20000)
  (htid:((os++rs).map Th.tid).Nodup) (hsid:((os++rs).map Th.sid).Nodup) (hser:((os++rs).map Th.ser).Nodup) (hok:∀ t∈os++rs,∀ s∈t.specs,s.Ok (os++rs)) (hlen:∀ t∈os++rs,t.specs.length≤1000)
  (R:RowsAt (os++rs) rows T) (hrl:rows.length≤20000) (hrs:∀ r∈rows,r.2.length≤1000) (hrn:(rows.map (·.1)).Nodup) (hrd:h.rdy∉rows.map (·.1))
  (hk1:∀ r∈rows,∀ s∈r.2,∀ v,tgt (os++rs) s=some v→v∈keptL gen ms os rs) (hk2:∀ t∈keptL gen ms os rs,∀ s∈t.specs,∀ v,tgt (os++rs) s=some v→v∈keptL gen ms os rs)
  (hev:T[ev]?=some (.tmp 501,.list ((allR h.rdy rows (keptL gen ms os rs)).map fun r=>.obj r.1)))
  (k:∀ tl' at' fin' m ρ T',HB {h with tl:=tl',at_:=at',fin:=fin'} (nextL gen ms os rs) {f with moved:=m} T'→(∀ r∈rows,T'[r.1]?=some (.real,.list (r.2.map (Spec.val (whOf (nextL gen ms os rs))))))→SL (nextL gen ms os rs) T'→Chg (ksX [.hp,.th,.real,.slots]) T T'→Q (none,ρ) T') :
  SV (CN (n+7)) [some (.obj h.hp),some (.obj lo),some (.obj mv),some (.int gen),some (.obj wo),some (.obj ev),x,y] (fd_move_all.body.drop 5) T Q:=by
 have hb:=M.hb
 have hsub:=kept_sub (ms:=ms) ho hr
 have hS:∀ t∈keptL gen ms os rs,T[t.sid]?=some (.slots,.list (t.specs.map (Spec.val (whOf (os++rs))))):=fun t ht=>S t (kept_mem ht)
 have nd:=allR_nodup hrn hrd (List.Pairwise.sublist (hsub.map _) hsid) (fun r hr=>⟨_,R.at_ r hr⟩) ⟨_,hb.rdy⟩ fun t ht=>⟨_,hS t ht⟩
 have RA:RowsIs (whOf (os++rs)) (allR h.rdy rows (keptL gen ms os rs)) T:=allR_all R.at_ hb.rdy hS
 have kA:∀ r∈allR h.rdy rows (keptL gen ms os rs),r.2.1=.real∨r.2.1=.slots:=allR_all (fun _ _=>.inl rfl) (.inl rfl) fun _ _=>.inr rfl
 have okA:∀ r∈allR h.rdy rows (keptL gen ms os rs),∀ s∈r.2.2,s.Ok (os++rs):=allR_all R.ok (fun _ q=>nomatch q) fun t ht=>hok t (kept_mem ht)
 have lenA:∀ r∈allR h.rdy rows (keptL gen ms os rs),r.2.2.length≤1000:=allR_all hrs (Nat.zero_le _) fun t ht=>hlen t (kept_mem ht)
 have mvA:∀ r∈allR h.rdy rows (keptL gen ms os rs),∀ s∈r.2.2,mvd (mov (endOf os) (youngL gen ms (os++rs))) ((tgt (os++rs) s).elim 0 Th.addr) (newA (nextL gen ms os rs) s):=allR_all (fun r hm s hs=>mvd_of hp ho hr hser (R.ok r hm s hs) (hk1 r hm s hs)) (fun _ q=>nomatch q) fun t ht s hs=>mvd_of hp ho hr hser (hok t (kept_mem ht) s hs) (hk2 t ht s hs)
 have lA:(allR h.rdy rows (keptL gen ms os rs)).length≤50000:=by
  unfold allR
  rw [List.length_append,List.length_append,List.length_map,List.length_map]
  exact Nat.le_trans (Nat.add_le_add (Nat.add_le_add hrl (Nat.le_refl 1)) (Nat.le_trans (kept_le ho hr) hlim)) (Nat.le_of_ble_eq_true rfl)
 have inR:∀ r∈rows,realR r∈allR h.rdy rows (keptL gen ms os rs):=fun r h=>List.mem_append_left _ (List.mem_append_left _ (List.mem_map_of_mem h))
 have inS:∀ t∈keptL gen ms os rs,slotR t∈allR h.rdy rows (keptL gen ms os rs):=fun t h=>List.mem_append_right _ (List.mem_map_of_mem h)
 have inD:(h.rdy,.real,[])∈allR h.rdy rows (keptL gen ms os rs):=List.mem_append_left _ (List.mem_append_right _ (.head _))
 generalize allR h.rdy rows (keptL gen ms os rs)=A at *
 k_ownIn
 refine sp_nlists M hp (sers_of hser) (Nat.le_trans hlim (Nat.le_of_ble_eq_true rfl)) okA lenA lA RA hev mvA fun i ps T₅ hn₅ h₅ hil hall5 c₅=>?_
 k_ownIn
 have R₅:RowsIs (whOf (os++rs)) A T₅:=fun r hr'=>c₅.keep (RA r hr')
 refine sp_put R₅ kA nd lA lenA (c₅.keep hev) (by decide) h₅ hil hall5 fun T₆ h₆ c₆=>?_
 have hb₆:HB h (os++rs) f T₆:=(hb.keep0 c₅).rows R₅ kA c₆ (h₆ _ inD)
 have hmv₆:=c₆.get (c₅.keep M.mvs) (rowX_off R₅ kA (c₅.keep M.mvs) (by decide))
 have cc:Chg (ksX [.hp,.th,.real,.slots]) T T₆:=c₆.back (c₅.weaken fun _ _ q=>q.elim) fun i' kk o hi q=>by
  obtain⟨r,hr',rfl⟩:=q
  rw [←same_kind (RA r hr') hi]
  rcases kA r hr' with q|q
  ·rw [q];exact List.Mem.tail _ (List.Mem.tail _ (List.Mem.head _))
  ·rw [q];exact List.Mem.tail _ (List.Mem.tail _ (List.Mem.tail _ (List.Mem.head _)))
 clear hall5 hil h₅ R₅ c₆ c₅ RA mvA okA lenA lA nd hev
 have b6:=hb₆.hp
 unfold hpObj at b6
 k_ownIn
 refine sp_maddrs hb₆.fin fun fi T₇ hn₇ h₇ c₇=>?_
 have hb₇:=hb₆.keep0 c₇
 have b7:=hb₇.hp
 unfold hpObj at b7
 clear b6
 k_ownIn
 rename_i T₈ h₈ c₈
 have hb₈:HB {h with fin:=fi} (os++rs) f T₈:=hb₇.hpPut c₈ h₈ rfl (c₈.otherK hb₇.tl h₈ (by decide)) (c₈.otherK hb₇.at_ h₈ (by decide)) (c₈.otherK hb₇.cd h₈ (by decide)) (c₈.otherK h₇ h₈ (by decide)) (c₈.otherK hb₇.rdy h₈ (by decide))
 refine sp_settle (h:={h with fin:=fi}) hb₈ hp ho hr (Nat.le_trans hlim (Nat.le_of_ble_eq_true rfl)) htid (c₈.otherK (c₇.keep hmv₆) h₈ (by decide)) fun tl' at' m T₉ hb₉ c₉=>?_
 k_ownIn
 have pass:∀ {i:Nat} {k:K} {o:O},k=.real∨k=.slots→T₆[i]?=some (k,o)→T₉[i]?=some (k,o):=fun hk hi=>by
  rcases hk with rfl|rfl
  ·exact c₉.get (c₈.otherK (c₇.keep hi) h₈ (by decide)) (nk (by decide))
  ·exact c₉.get (c₈.otherK (c₇.keep hi) h₈ (by decide)) (nk (by decide))
 refine k tl' at' fi m _ T₉ hb₉ (fun r hr'=>?_) (fun t' ht'=>?_) ?_
 ·have h1:=h₆ _ (inR r hr')
  rw [newV_val] at h1
  exact pass (.inl rfl) h1
 ·obtain⟨t,ht,e1,e2⟩:=kept_image' hp ho ht'
  have h1:=h₆ _ (inS t ht)
  rw [newV_val] at h1
  rw [e1,e2]
  exact pass (.inr rfl) h1
 ·exact c₉.back (c₈.back (c₇.back cc side_no) (side_kind hb.hp (by decide))) (side_ks (by decide))
set_option maxHeartbeats 2000000 in
theorem sp_moveall {n:Nat} {h:Hid} {os rs ms:List Th} {f:Hn} {gen mv lo:Nat} {rows:List (Nat×List Spec)} {T:TH} {Q:V→TH→Prop} (hb:HB h (os++rs) f T) (S:SL (os++rs) T) (hp:Packed 16 (os++rs)) (ho:∀ t∈os,gen<t.age) (hr:∀ t∈rs,t.age≤gen) (hlim:(os++rs).length≤20000)
  (htid:((os++rs).map Th.tid).Nodup) (hsid:((os++rs).map Th.sid).Nodup) (hser:((os++rs).map Th.ser).Nodup) (hok:∀ t∈os++rs,∀ s∈t.specs,s.Ok (os++rs)) (hlen:∀ t∈os++rs,t.specs.length≤1000)
  (R:RowsAt (os++rs) rows T) (hrl:rows.length≤20000) (hrs:∀ r∈rows,r.2.length≤1000) (hrn:(rows.map (·.1)).Nodup) (hrd:h.rdy∉rows.map (·.1)) (hlo:T[lo]?=some (.tmp 540,.list (rows.map fun r=>.obj r.1)))
  (hk1:∀ r∈rows,∀ s∈r.2,∀ v,tgt (os++rs) s=some v→v∈keptL gen ms os rs) (hk2:∀ t∈keptL gen ms os rs,∀ s∈t.specs,∀ v,tgt (os++rs) s=some v→v∈keptL gen ms os rs)
  (hmv:T[mv]?=some (.tmp 390,.di (mov (endOf os) (youngL gen ms (os++rs)))))
  (k:∀ tl' at' fin' m T',HB {h with tl:=tl',at_:=at',fin:=fin'} (nextL gen ms os rs) {f with moved:=m} T'→(∀ r∈rows,T'[r.1]?=some (.real,.list (r.2.map (Spec.val (whOf (nextL gen ms os rs))))))→SL (nextL gen ms os rs) T'→Chg (ksX [.hp,.th,.real,.slots]) T T'→Q .none T') :
  CallY (CN (n+8)) 50 [.obj h.hp,.obj lo,.obj mv,.int gen] T Q:=by
 refine call_fn (fd:=fd_move_all) (by rfl) (by rfl) ?_
 refine (?_:SV _ [some (.obj h.hp),some (.obj lo),some (.obj mv),some (.int gen),none,none,none,none] _ _ _)
 k_ownIn
 refine AnyK.mk (.tmp 500) ?_
 repeat o_fieldsN
 rename_i wo T₀ hn₀ h₀ c₀
 refine sp_Words h₀ fun T₁ h₁ c₁=>⟨rfl,?_⟩
 have c₁':Chg noX T T₁:=c₁.fresh c₀ hn₀
 k_ownIn
 refine AnyK.mk (.tmp 501) (NewY.intro fun ev T₂ hn₂ h₂ c₂=>?_)
 have c₂':Chg noX T T₂:=c₁'.tr c₂
 have hev:T[ev]?=none:=none_back hn₂ (c₁'.weaken fun _ _ q=>q.elim)
 have wo₂:=c₂.keep h₁
 have ne0:wo≠ev:=ne_none h₁ hn₂
 have lo₂:=c₂'.keep hlo
 clear c₁ c₀ h₀ c₂ h₁ hn₂ c₁'
 k_ownIn
 refine ForY.app1 (id':=fun r:Nat×List Spec=>r.1) (p:=fun _=>true) (f:=fun x=>[some (.obj h.hp),some (.obj lo),some (.obj mv),some (.int gen),some (.obj wo),some (.obj ev),x,none]) 0 20000 lo₂ h₂ (ne_none hlo hev) (Nat.le_refl 0) hrl none ?_ ?_
 ·intro Q' r rv x T₃ _ hl hO c₃ y _
  k_ownIn
  refine⟨limL' hl,PutY.tr c₃ fun T₄ h₄ c₄=>?_⟩
  k_ownIn
  exact y rfl _ T₄ h₄ c₄
 ·intro x T₃ he c₃
  rw [filter_all] at he
  have b1:=(hb.keep0 (c₃.fresh c₂' hev)).hp
  unfold hpObj at b1
  have hl:([]++rows.map fun r:Nat×List Spec=>V.obj r.1).length≤20000:=mpL hrl
  k_ownIn
  refine⟨limL' hl,PutY.tr c₃ fun T₃ h₃ c₃=>?_⟩
  have c₃':=c₃.fresh c₂' hev
  have b1:=(hb.keep0 c₃').hp
  unfold hpObj at b1
  have b3:=(hb.keep0 c₃').tl
  k_ownIn
  refine ForY.app1 (id':=Th.sid) (p:=fun t=>decide (gen<t.age)||inY gen ms t) (f:=fun y=>[some (.obj h.hp),some (.obj lo),some (.obj mv),some (.int gen),some (.obj wo),some (.obj ev),x,y]) 20001 20000 b3 h₃ (ne_none hb.tl hev) (apL hl) hlim none ?_ ?_
  ·intro Q' t rv y T₄ htm hl hO c₄ q0 q1
   have c:=c₄.fresh c₃' hev
   have hth:=c.keep (hb.th t htm)
   k_ownIn
   refine sp_stays hth (c.keep hmv) ?_
   rw [stay_iff hp.apart htm]
   unfold Th.obj at hth
   cases hst:(decide (gen<t.age)||inY gen ms t) with
   | true =>
    k_ownIn
    refine⟨limL' hl,PutY.tr c₄ fun T₅ h₅ c₅=>?_⟩
    k_ownIn
    exact q0 hst _ T₅ h₅ c₅
   | false =>
    k_ownIn
    exact q1 hst _
  ·intro y T₄ he₄ c₄
   rw [filter_stay ho hr] at he₄
   have c:=c₄.fresh c₃' hev
   refine move_tail ⟨hb.keep0 c,c.keep hmv,(c₃.tr c₄).other wo₂ ne0⟩ (fun t ht=>c.keep (S t ht)) hp ho hr hlim htid hsid hser hok hlen ⟨fun r hr=>c.keep (R.at_ r hr),R.ok⟩ hrl hrs hrn hrd hk1 hk2 (allR_ids▸he₄) fun tl' at' fin' m ρ T' h1 h2 h3 h4=>k tl' at' fin' m T' h1 h2 h3 (h4.back (c.weaken fun _ _ q=>q.elim) side_same)
set_option genInjectivity false
theorem sp_younger {n:Nat} {h:Hid} {ts:List Th} {f:Hn} {t:Th} {s:Spec} {T:TH} {Q:V→TH→Prop} (hb:HB h ts f T) (hp:Packed 16 ts) (hsr:Sers ts) (ht:t∈ts) (hs:s.Ok ts) (hage:∀ v,tgt ts s=some v→v.age=t.age)
  (k:∀ T',Chg noX T T'→Q (.bool false) T'):CallY (CN (n+2)) 30 [.obj h.hp,.obj t.tid,s.val (whOf ts)] T Q:=by
 rw [val_tgt]
 refine call_fn (fd:=fd_refers_younger) (by rfl) (by rfl) ?_
 show SV _ [some (.obj h.hp),some (.obj t.tid),some (s.valA ((tgt ts s).elim 0 Th.addr)),none,none] _ _ _
 skip
 k_ownIn
 refine sp_refs fun i T₁ hn₁ h₁ c₁=>?_
 have hb₁:=hb.keep0 c₁
 have b1:=hb₁.hp
 unfold hpObj at b1
 have b3:=hb₁.at_
 have bt:=hb₁.th t ht
 unfold Th.obj at bt
 k_ownIn
 have hcase:s.refsA ((tgt ts s).elim 0 Th.addr)=[]∨∃ v,tgt ts s=some v∧s.refsA ((tgt ts s).elim 0 Th.addr)=[.int v.addr]:=by
  cases q:tgt ts s with
  | none =>
   left
   unfold Spec.refsA oneL
   dsimp only [Option.elim]
   split<;>rfl
  | some v =>
   have:=hp.mem v (tgt_mem q).1
   have e:oneL v.addr=[.int v.addr]:=by unfold oneL;rw [if_neg (by omega)]
   unfold Spec.refsA
   dsimp only [Option.elim]
   split
   ·exact .inr ⟨v,rfl,e⟩
   ·exact .inr ⟨v,rfl,e⟩
   ·exact .inr ⟨v,rfl,e⟩
   ·exact .inl rfl
 rcases hcase with e|⟨v,hv,e⟩
 ·rw [e] at h₁
  first|refine FV.done h₁ rfl ?_|refine ForY.unroll 9 (FV.done h₁ rfl ?_)
  k_ownIn
  exact k _ c₁
 ·rw [e] at h₁
  have hvm:=(tgt_mem hv).1
  have bv:=hb₁.th v hvm
  unfold Th.obj at bv
  have hva:=hage v hv
  first|refine FV.step h₁ rfl ?_|refine ForY.unroll 9 (FV.step h₁ rfl ?_)
  k_ownIn
  rw [dget_at hp.apart hvm]
  k_ownIn
  first|refine FV.done h₁ rfl ?_|refine ForY.unroll 9 (FV.done h₁ rfl ?_)
  k_ownIn
  exact k _ c₁
noncomputable def SameAge (ts:List Th):Prop:=∀ t∈ts,∀ s∈t.specs,∀ v,tgt ts s=some v→v.age=t.age
theorem sp_yslots {n:Nat} {h:Hid} {ts:List Th} {f:Hn} {T:TH} {Q:V→TH→Prop} (hb:HB h ts f T) (S:SL ts T) (hp:Packed 16 ts) (hsr:Sers ts) (hok:∀ t∈ts,∀ s∈t.specs,s.Ok ts) (hlen:∀ t∈ts,t.specs.length≤1000) (hage:SameAge ts)
  (k:∀ i T',T[i]?=none→T'[i]?=some (.tmp 310,.list [])→Chg noX T T'→Q (.obj i) T'):CallY (CN (n+3)) 31 [.obj h.hp] T Q:=by
 refine call_fn (fd:=fd_younger_slots) (by rfl) (by rfl) ?_
 show SV _ [some (.obj h.hp),none,none,none] _ _ _
 k_ownIn
 refine AnyK.mk (.tmp 310) ?_
 refine NewY.intro ?_
 intro i T₁ hn₁ h₁ c₁
 have b1:=(hb.keep0 c₁).hp
 unfold hpObj at b1
 have b2:=(hb.keep0 c₁).tl
 k_ownIn
 k_ownIn
 refine (ForY.over (fun j ρ T'=>∃ x y:Option V,ρ=[some (.obj h.hp),some (.obj i),x,y]∧Chg noX T₁ T') ?_)
 k_ownIn
 refine⟨⟨_,_,rfl,.refl _ _⟩,?_,?_⟩
 ·rintro j v ρ T' hv ⟨x,y,rfl,c'⟩ ho
  rw [List.getElem?_map] at hv
  obtain⟨t,ht,rfl⟩:=Option.map_eq_some_iff.mp hv
  have htm:=List.mem_of_getElem? ht
  have c'':=c₁.tr c'
  have hth':=c''.keep (hb.th t htm)
  unfold Th.obj at hth'
  k_ownIn
  refine⟨fun hb'=>?_,fun hb'=>?_⟩
  ·dsimp only [List.cons_append,List.nil_append]
   skip
   k_ownIn
   k_ownIn
   have hlt:=hlen t htm
   refine LenY.list (c''.keep (S t htm)) (by simp;unfold limit;lia) ?_
   refine (RangeY.over (fun j ρ T''=>∃ y:Option V,ρ=[some (.obj h.hp),some (.obj i),some (.obj t.tid),y]∧Chg noX T' T'') ?_)
   k_ownIn
   refine⟨by simp;unfold limit;lia,⟨_,rfl,.refl _ _⟩,?_,?_⟩
   ·rintro j' ρ T₃ hj' ⟨y,rfl,c₃⟩
    have hj':j'<t.specs.length:=by simpa using hj'
    obtain⟨s,hs⟩:∃ s,t.specs[j']?=some s:=⟨_,List.getElem?_eq_getElem hj'⟩
    have hsm:=List.mem_of_getElem? hs
    have c₃':=c''.tr c₃
    have hth₃:=c₃'.keep (hb.th t htm)
    unfold Th.obj at hth₃
    show SV _ [some (.obj h.hp),some (.obj i),some (.obj t.tid),some (.int j')] _ _ _
    k_ownIn
    refine IdxY.list (c₃'.keep (S t htm)) (at_nat (v:=s.val (whOf ts)) (by rw [List.getElem?_map,hs];rfl) (by lia)) ?_
    k_ownIn
    refine sp_younger (hb.keep0 c₃') hp hsr htm (hok t htm s hsm) (hage t htm s hsm) fun T₄ c₄=>?_
    k_ownIn
    exact⟨_,rfl,c₃.tr c₄⟩
   ·rintro ρ T₃ ⟨y,rfl,c₃⟩
    k_ownIn
    exact⟨⟨_,_,rfl,c'.tr c₃⟩,c₃.keep ho⟩
  ·dsimp only [List.cons_append,List.nil_append]
   k_ownIn
   exact⟨⟨_,_,rfl,c'⟩,ho⟩
 ·rintro ρ T' ⟨x,y,rfl,c'⟩ ho
  k_ownIn
  exact k _ _ hn₁ (c'.keep h₁) (c₁.tr c')
theorem sp_renew {n:Nat} {h:Hid} {ts:List Th} {f:Hn} {T:TH} {Q:V→TH→Prop} (hb:HB h ts f T) (S:SL ts T) (hp:Packed 16 ts) (hsr:Sers ts) (hok:∀ t∈ts,∀ s∈t.specs,s.Ok ts) (hlen:∀ t∈ts,t.specs.length≤1000) (hage:SameAge ts)
  (k:∀ cd' T',HB {h with cd:=cd'} ts f T'→Chg (ksX [.hp]) T T'→Q .none T'):CallY (CN (n+4)) 32 [.obj h.hp] T Q:=by
 refine call_fn (fd:=fd_renew_cards) (by rfl) (by rfl) ?_
 show SV _ [some (.obj h.hp),none,none] _ _ _
 skip
 skip
 refine AnyK.mk .cd ?_
 refine NewY.intro ?_
 intro i T₁ hn₁ h₁ c₁
 have hb₁:=hb.keep0 c₁
 have b1:=hb₁.hp
 unfold hpObj at b1
 k_ownIn
 rename_i T₂ h₂ c₂
 have hb₂:HB {h with cd:=i} ts f T₂:=hb₁.hpPut c₂ (by simpa [hpObj,putAt,putO] using h₂) rfl (c₂.otherK hb₁.tl h₂ (by decide)) (c₂.otherK hb₁.at_ h₂ (by decide)) (c₂.otherK h₁ h₂ (by decide)) (c₂.otherK hb₁.fin h₂ (by decide)) (c₂.otherK hb₁.rdy h₂ (by decide))
 have S₂:SL ts T₂:=fun t ht=>c₂.otherK (c₁.keep (S t ht)) h₂ (by decide)
 k_ownIn
 refine sp_yslots (h:={h with cd:=i}) hb₂ S₂ hp hsr hok hlen hage fun l T₃ hn₃ h₃ c₃=>?_
 k_ownIn
 first|refine FV.done h₃ rfl ?_|refine ForY.unroll 9 (FV.done h₃ rfl ?_)
 k_ownIn
 exact k i T₃ (hb₂.keep0 c₃) (c₃.back (c₂.back (c₁.weaken fun _ _ q=>q.elim) (side_kind hb.hp (by decide))) side_no)
theorem sp_used {n:Nat} {h:Hid} {ts:List Th} {f:Hn} {T:TH} {Q:V→TH→Prop} (hb:HB h ts f T) (k:Q (.int ((endOf ts:Nat)-16)) T):CallY (CN (n+1)) 4 [.obj h.hp] T Q:=by
 have b1:=hb.hp
 unfold hpObj at b1
 refine call_fn (fd:=fd_used_words) (by rfl) (by rfl) ?_
 show SV _ [some (.obj h.hp)] _ _ _
 k_ownIn
 exact k
theorem sp_note {n:Nat} {h:Hid} {ts:List Th} {f:Hn} {gen:Nat} {T:TH} {Q:V→TH→Prop} (hb:HB h ts f T) (k:∀ l fr T',HB h ts {f with limit:=l,fresh:=fr} T'→Chg (ksX [.hp]) T T'→Q .none T'):CallY (CN (n+2)) 5 [.obj h.hp,.int gen] T Q:=by
 have b1:=hb.hp
 unfold hpObj at b1
 refine call_fn (fd:=fd_note_collected) (by rfl) (by rfl) ?_
 show SV _ [some (.obj h.hp),some (.int gen)] _ _ _
 have done:∀ {T':TH} {l fr:Int},T'[h.hp]?=some (.hp,hpObj h {f with limit:=l,fresh:=fr} (endOf ts))→Chg (oneX h.hp) T T'→HB h ts {f with limit:=l,fresh:=fr} T'∧Chg (ksX [.hp]) T T':=fun hh c =>
  ⟨hb.hpPut c hh rfl (c.otherK hb.tl hh (by decide)) (c.otherK hb.at_ hh (by decide)) (c.otherK hb.cd hh (by decide)) (c.otherK hb.fin hh (by decide)) (c.otherK hb.rdy hh (by decide)),c.back (.refl _ _) (side_kind hb.hp (by decide))⟩
 k_ownIn
 rename_i T₁ h₁ c₁
 have d₁:=done (l:=f.limit) (fr:=0) (by simpa [hpObj,putAt,putO] using h₁) c₁
 by_cases hg:2≤gen
 ·refine⟨fun _=>?_,fun hb'=>by simp at hb';omega⟩
  k_ownIn
  refine sp_used d₁.1 ?_
  k_ownIn
  refine⟨fun hb'=>?_,fun hb'=>?_⟩
  ·dsimp only [List.cons_append,List.nil_append]
   k_ownIn
   refine sp_used d₁.1 ?_
   k_ownIn
   rename_i T₂ h₂ c₂
   have d₂:=done (l:=2*((endOf ts:Nat)-16)) (fr:=0) (by simpa [hpObj,putAt,putO] using h₂) c₂
   exact k _ _ _ d₂.1 d₂.2
  ·dsimp only [List.cons_append,List.nil_append]
   k_ownIn
   exact k _ _ _ d₁.1 d₁.2
 ·k_ownIn
  exact k _ _ _ d₁.1 d₁.2
set_option genInjectivity false
inductive Reach (ts:List Th) (rows:List (List Spec)):Th→Prop
 | root {r s v}:r∈rows→s∈r→tgt ts s=some v→Reach ts rows v
 | step {u s v}:Reach ts rows u→s∈u.specs→tgt ts s=some v→Reach ts rows v
theorem reach_mem {ts:List Th} {rows:List (List Spec)} {t:Th} (h:Reach ts rows t):t∈ts:=by
 cases h with
 | root _ _ e=>exact (tgt_mem e).1
 | step _ _ e=>exact (tgt_mem e).1
noncomputable def bumpA (gen a:Nat):Nat:=if gen<a then a else if a<2 then a+1 else a
theorem kept_image {gen:Nat} {ms os rs:List Th} (hp:Packed 16 (os++rs)) (ho:∀ t∈os,gen<t.age) {v:Th} (h:v∈keptL gen ms os rs):∃ v'∈nextL gen ms os rs,v'.ser=v.ser∧v'.specs=v.specs∧v'.age=bumpA gen v.age∧v'.kind=v.kind∧v'.tid=v.tid∧v'.sid=v.sid∧v'.pid=v.pid:=by
 obtain⟨j,hj⟩:=List.getElem?_of_mem h
 rcases kept_get hp ho hj with ⟨h1,h2⟩|⟨h1,a,_,h2⟩
 ·exact⟨v,List.mem_of_getElem? h2,rfl,rfl,by unfold bumpA;rw [if_pos h1],rfl,rfl,rfl,rfl⟩
 ·exact⟨_,List.mem_of_getElem? h2,rfl,rfl,by unfold bumpA;rw [if_neg (by omega)];rfl,rfl,rfl,rfl,rfl⟩
theorem next_image {gen:Nat} {ms os rs:List Th} (hp:Packed 16 (os++rs)) (ho:∀ t∈os,gen<t.age) {v':Th} (h:v'∈nextL gen ms os rs):∃ v∈keptL gen ms os rs,v'.ser=v.ser∧v'.specs=v.specs∧v'.age=bumpA gen v.age∧v'.kind=v.kind∧v'.tid=v.tid∧v'.sid=v.sid∧v'.pid=v.pid:=by
 obtain⟨j,hj⟩:=List.getElem?_of_mem h
 obtain⟨v,hv⟩:∃ v,(keptL gen ms os rs)[j]?=some v:=⟨_,List.getElem?_eq_getElem (by rw [←next_length];exact (List.getElem?_eq_some_iff.mp hj).1)⟩
 rcases kept_get hp ho hv with ⟨h1,h2⟩|⟨h1,a,_,h2⟩
 ·rw [hj] at h2;cases h2
  exact⟨_,List.mem_of_getElem? hv,rfl,rfl,by unfold bumpA;rw [if_pos h1],rfl,rfl,rfl,rfl⟩
 ·rw [hj] at h2;cases h2
  exact⟨v,List.mem_of_getElem? hv,rfl,rfl,by unfold bumpA;rw [if_neg (by lia)];rfl,rfl,rfl,rfl,rfl⟩
structure Good (ts:List Th):Prop where
 packed:Packed 16 ts
 ser:ts.Pairwise fun a b=>a.ser<b.ser
 aged:ts.Pairwise fun a b=>b.age≤a.age
 age2:∀ t∈ts,t.age≤2
 pos:∀ t∈ts,0<t.ser
 ok:∀ t∈ts,∀ s∈t.specs,s.Ok ts
 same:SameAge ts
 len:∀ t∈ts,t.specs.length≤10
 tid:(ts.map Th.tid).Nodup
 sid:(ts.map Th.sid).Nodup
theorem Good.sers {ts:List Th} (G:Good ts):(ts.map Th.ser).Nodup:=by
 unfold List.Nodup
 rw [List.pairwise_map]
 exact G.ser.imp fun h=>Nat.ne_of_lt h
theorem Good.split {ts:List Th} (G:Good ts) (gen:Nat):∃ os rs,ts=os++rs∧(∀ t∈os,gen<t.age)∧∀ t∈rs,t.age≤gen:=by
 have h:=G.aged
 clear G
 induction ts with
 | nil=>exact⟨[],[],rfl,fun _ h=>(nomatch h),fun _ h=>(nomatch h)⟩
 | cons a r ih =>
  rw [List.pairwise_cons] at h
  obtain⟨os,rs,e,h1,h2⟩:=ih h.2
  by_cases q:gen<a.age
  ·refine⟨a::os,rs,by rw [e];rfl,fun t ht=>?_,h2⟩
   rcases List.mem_cons.mp ht with rfl|ht
   ·exact q
   ·exact h1 t ht
  ·refine⟨[],a::r,rfl,fun _ h=>(nomatch h),fun t ht=>?_⟩
   rcases List.mem_cons.mp ht with rfl|ht
   ·omega
   ·have:=h.1 t ht;omega
structure Keeps (gen:Nat) (ms os rs:List Th):Prop where
 ho:∀ t∈os,gen<t.age
 hr:∀ t∈rs,t.age≤gen
 cl:∀ t∈keptL gen ms os rs,∀ s∈t.specs,∀ v,tgt (os++rs) s=some v→v∈keptL gen ms os rs
theorem tgt_next {gen:Nat} {ms os rs:List Th} (G:Good (os++rs)) (ho:∀ t∈os,gen<t.age) (hr:∀ t∈rs,t.age≤gen) {s:Spec} (hs:s.Ok (os++rs)) (hk:∀ v,tgt (os++rs) s=some v→v∈keptL gen ms os rs) :
  s.Ok (nextL gen ms os rs)∧∀ v',tgt (nextL gen ms os rs) s=some v'→∃ v,tgt (os++rs) s=some v∧v'.age=bumpA gen v.age:=by
 have hns:=sers_of (next_sers (ms:=ms) ho hr G.sers)
 refine⟨⟨hs.form,hs.n,fun h0=>?_,hs.place⟩,fun v' hv'=>?_⟩
 ·obtain⟨h1,t,ht,e,h2⟩:=hs.one h0
  obtain⟨v',hv',e1,e2,_⟩:=kept_image G.packed ho (hk t (tgt_of (sers_of G.sers) h0 ht e))
  exact⟨h1,v',hv',e1.trans e,by rw [e2];exact h2⟩
 ·obtain⟨hm,h0,e⟩:=tgt_mem hv'
  obtain⟨h1,t,ht,e',h2⟩:=hs.one h0
  have ht':=tgt_of (sers_of G.sers) h0 ht e'
  obtain⟨w,hw,e1,e2,e3,_⟩:=kept_image G.packed ho (hk t ht')
  have:v'=w:=hns v' hm w hw (by rw [e,e1,e'])
  subst this
  exact⟨t,ht',e3⟩
theorem Keeps.next {gen:Nat} {ms os rs:List Th} (G:Good (os++rs)) (Kp:Keeps gen ms os rs):Good (nextL gen ms os rs):=by
 obtain⟨ho,hr,cl⟩:=Kp
 have hsub:=kept_sub (ms:=ms) ho hr
 refine⟨nextL_packed G.packed,?_,?_,fun t' ht'=>?_,fun t' ht'=>?_,fun t' ht' s hs=>?_,fun t' ht' s hs v' hv'=>?_,fun t' ht'=>?_,?_,?_⟩
 ·have:(keptL gen ms os rs).Pairwise fun a b=>a.ser<b.ser:=List.Pairwise.sublist hsub G.ser
  rw [←List.pairwise_map (f:=Th.ser)] at this ⊢
  rw [next_map fun _ _=>rfl];exact this
 ·have h1:(keptL gen ms os rs).Pairwise fun a b=>b.age≤a.age:=List.Pairwise.sublist hsub G.aged
  have e:(nextL gen ms os rs).map Th.age=(keptL gen ms os rs).map fun t=>bumpA gen t.age:=by
   refine List.ext_getElem? fun j=>?_
   rw [List.getElem?_map,List.getElem?_map]
   cases q:(keptL gen ms os rs)[j]? with
   | none=>rw [List.getElem?_eq_none (by rw [next_length];exact List.getElem?_eq_none_iff.mp q)];rfl
   | some t =>
    rcases kept_get G.packed ho q with ⟨h1,h2⟩|⟨h1,a,_,h2⟩<;>rw [h2]
    ·show some t.age=some (bumpA gen t.age);unfold bumpA;rw [if_pos h1]
    ·show some (t.aged a).age=some (bumpA gen t.age);unfold bumpA;rw [if_neg (by omega)];rfl
  rw [←List.pairwise_map (f:=Th.age) (R:=fun a b=>b≤a),e,List.pairwise_map]
  refine h1.imp fun {a b} h=>?_
  unfold bumpA
  split<;>split<;>(try split)<;>(try split)<;>omega
 ·obtain⟨v,hv,_,_,e,_⟩:=next_image G.packed ho ht'
  have:=G.age2 v (kept_mem hv)
  rw [e];unfold bumpA;split<;>(try split)<;>omega
 ·obtain⟨v,hv,e,_⟩:=next_image G.packed ho ht'
  rw [e];exact G.pos v (kept_mem hv)
 ·obtain⟨v,hv,_,e,_⟩:=next_image G.packed ho ht'
  rw [e] at hs
  exact (tgt_next G ho hr (G.ok v (kept_mem hv) s hs) (cl v hv s hs)).1
 ·obtain⟨v,hv,_,e,e2,_⟩:=next_image G.packed ho ht'
  rw [e] at hs
  obtain⟨w,hw,e3⟩:=(tgt_next G ho hr (G.ok v (kept_mem hv) s hs) (cl v hv s hs)).2 v' hv'
  rw [e3,e2,G.same v (kept_mem hv) s hs w hw]
 ·obtain⟨v,hv,_,e,_⟩:=next_image G.packed ho ht'
  rw [e];exact G.len v (kept_mem hv)
 ·rw [next_map fun _ _=>rfl];exact List.Pairwise.sublist (hsub.map _) G.tid
 ·rw [next_map fun _ _=>rfl];exact List.Pairwise.sublist (hsub.map _) G.sid
set_option genInjectivity false
theorem marked_iff {ts:List Th} {gen:Nat} {rows:List (Nat×List Spec)} {ms:List Th} (G:Good ts) (h1:Mk1 gen ts (Reach ts (rows.map (·.2))) (ms,[])) (h2:∀ u∈ms,∀ s∈u.specs,ClS gen ts ms s) (h3:∀ r∈rows,∀ s∈r.2,ClS gen ts ms s) {t:Th} (ha:t.age≤gen) :
  t∈ms ↔ Reach ts (rows.map (·.2)) t:=by
 refine⟨fun h=>(h1.sub t h).2.2,fun h=>?_⟩
 induction h with
 | root hr hs e =>
  obtain⟨r,hr',rfl⟩:=List.mem_map.mp hr
  rcases h3 r hr' _ hs _ e with q|q
  ·lia
  ·exact q
 | step hu hs e ih =>
  have:=G.same _ (reach_mem hu) _ hs _ e
  rcases h2 _ (ih (by lia)) _ hs _ e with q|q
  ·lia
  ·exact q
theorem next_congr {gen:Nat} {ms sn os rs:List Th} (h:∀ t∈os++rs,t.age≤gen→(t∈ms ↔ t∈sn)):youngL gen ms (os++rs)=youngL gen sn (os++rs):=by
 unfold youngL
 refine List.filter_congr fun t ht=>?_
 unfold inY
 by_cases q:t.age≤gen
 ·have:=h t ht q
  by_cases q':t∈ms
  ·rw [decide_eq_true q',decide_eq_true (this.mp q')]
  ·rw [decide_eq_false q',decide_eq_false fun x=>q' (this.mpr x)]
 ·rw [decide_eq_false q];rfl
set_option maxHeartbeats 2000000 in
theorem sp_collect {n:Nat} {h:Hid} {hd hr' lo:Nat} {os rs sn:List Th} {f:Hn} {gen:Nat} {rows:List (Nat×List Spec)} {T:TH} {Q:V→TH→Prop} (hb:HB h (os++rs) f T) (H:Hds hd hr' T) (S:SL (os++rs) T) (G:Good (os++rs)) (ho:∀ t∈os,gen<t.age) (hr:∀ t∈rs,t.age≤gen) (hlim:(os++rs).length≤20000)
  (R:RowsAt (os++rs) rows T) (hrl:rows.length≤20000) (hrs:∀ r∈rows,r.2.length≤1000) (hrn:(rows.map (·.1)).Nodup) (hrd:h.rdy∉rows.map (·.1)) (hlo:T[lo]?=some (.tmp 540,.list (rows.map fun r=>.obj r.1)))
  (hsn:∀ t∈os++rs,t.age≤gen→(t∈sn ↔ Reach (os++rs) (rows.map (·.2)) t))
  (k:∀ h' f' T',h'.hp=h.hp→h'.rdy=h.rdy→f'.made=f.made→Keeps gen sn os rs→HB h' (nextL gen sn os rs) f' T'→(∀ r∈rows,T'[r.1]?=some (.real,.list (r.2.map (Spec.val (whOf (nextL gen sn os rs))))))→SL (nextL gen sn os rs) T'→Chg (ksX [.hp,.th,.real,.slots]) T T' →
   (∀ r∈rows,∀ s∈r.2,s.Ok (nextL gen sn os rs))→Q (.int (((os++rs).length:Int)-((nextL gen sn os rs).length:Int))) T') :
  CallY (CN (n+9)) 53 [.obj h.hp,.obj lo,.obj hd,.int gen] T Q:=by
 refine call_fn (fd:=fd_collect) (by rfl) (by rfl) ?_
 show SV _ [some (.obj h.hp),some (.obj lo),some (.obj hd),some (.int gen),none,none,none] _ _ _
 have b1:=hb.hp
 unfold hpObj at b1
 k_ownIn
 refine LenY.list hb.tl (by rw [List.length_map];unfold limit;lia) ?_
 k_ownIn
 refine sp_living (P:=Reach (os++rs) (rows.map (·.2))) hb H S G.packed (sers_of G.sers) (by lia) G.ok (fun t ht=>Nat.le_trans (G.len t ht) (by decide)) R hlo (by lia) (fun u v s _ hu hs e=>.step hu hs e) (fun r hr s hs v e=>.root (List.mem_map_of_mem hr) hs e) fun mk ms fi T₁ hn₁ h₁ g1 g2 g3 hb₁ c₁=>?_
 have hiff:∀ t∈os++rs,t.age≤gen→(t∈ms ↔ t∈sn):=fun t ht ha=>(marked_iff G g1 g2 g3 ha).trans (hsn t ht ha).symm
 have hyo:=next_congr hiff
 have hne:nextL gen ms os rs=nextL gen sn os rs:=by unfold nextL;rw [hyo]
 have hke:keptL gen ms os rs=keptL gen sn os rs:=by unfold keptL;rw [hyo]
 have hkept:∀ v∈os++rs,gen<v.age∨v∈ms→v∈keptL gen ms os rs:=fun v hv q=>by
  rcases List.mem_append.mp hv with hv'|hv'
  ·exact List.mem_append_left _ hv'
  ·have:=hr v hv'
   rcases q with q|q
   ·lia
   ·exact List.mem_append_right _ (mem_young.mpr ⟨hv,this,q⟩)
 have hk1:∀ r∈rows,∀ s∈r.2,∀ v,tgt (os++rs) s=some v→v∈keptL gen ms os rs:=fun r hr' s hs v e=>hkept v (tgt_mem e).1 (g3 r hr' s hs v e)
 have hk2:∀ t∈keptL gen ms os rs,∀ s∈t.specs,∀ v,tgt (os++rs) s=some v→v∈keptL gen ms os rs:=fun t ht s hs v e=>by
  refine hkept v (tgt_mem e).1 ?_
  rcases List.mem_append.mp ht with ht'|ht'
  ·have:=G.same t (kept_mem ht) s hs v e
   have:=ho t ht'
   exact .inl (by lia)
  ·exact g2 t (mem_young.mp ht').2.2 s hs v e
 have Kp:Keeps gen ms os rs:=⟨ho,hr,hk2⟩
 have hms:∀ m∈ms,m∈os++rs:=fun m hm=>(g1.sub m hm).1
 have S₁:SL (os++rs) T₁:=fun t ht=>c₁.get (S t ht) (nk (by decide))
 have R₁:RowsAt (os++rs) rows T₁:=⟨fun r hr'=>c₁.get (R.at_ r hr') (nk (by decide)),R.ok⟩
 have H₁:=H.chg c₁ fun _=>⟨nk (by decide),nk (by decide)⟩
 have hlo₁:=c₁.get hlo (nk (by decide))
 k_ownIn
 refine sp_plan (h:={h with fin:=fi}) hb₁ G.packed ho hr (by lia) h₁ hms fun mv T₂ hn₂ h₂ c₂=>?_
 have hb₂:=hb₁.keep0 c₂
 k_ownIn
 refine sp_moveall (h:={h with fin:=fi}) hb₂ (fun t ht=>c₂.keep (S₁ t ht)) G.packed ho hr hlim G.tid G.sid G.sers G.ok (fun t ht=>Nat.le_trans (G.len t ht) (by decide)) ⟨fun r hr'=>c₂.keep (R₁.at_ r hr'),R.ok⟩ hrl hrs hrn hrd (c₂.keep hlo₁) hk1 hk2 h₂ fun tl' at' fi' m T₃ hb₃ R₃ S₃ c₃=>?_
 have H₃:=(H₁.chg c₂ fun _=>⟨id,id⟩).chg c₃ fun _=>⟨nk (by decide),nk (by decide)⟩
 have G':=Kp.next G
 k_ownIn
 refine sp_moveh H₃ ?_
 k_ownIn
 refine sp_renew (h:={h with tl:=tl',at_:=at',fin:=fi'}) hb₃ S₃ G'.packed (sers_of G'.sers) G'.ok (fun t ht=>Nat.le_trans (G'.len t ht) (by decide)) G'.same fun cd' T₄ hb₄ c₄=>?_
 k_ownIn
 refine sp_note (h:={h with tl:=tl',at_:=at',fin:=fi',cd:=cd'}) hb₄ fun l fr T₅ hb₅ c₅=>?_
 have b5:=hb₅.hp
 unfold hpObj at b5
 have hl5:(nextL gen ms os rs).length≤20000:=by have:=kept_le (ms:=ms) ho hr;rw [next_length];lia
 k_ownIn
 refine LenY.list hb₅.tl (by rw [List.length_map];unfold limit;lia) ?_
 k_ownIn
 rw [List.length_map,List.length_map,hne]
 rw [hne] at hb₅ R₃ S₃
 refine k _ _ T₅ ?_ ?_ ?_ ⟨ho,hr,by rw [←hke];exact hk2⟩ hb₅ (fun r hr'=>c₅.get (c₄.get (R₃ r hr') (nk (by decide))) (nk (by decide))) (fun t ht=>c₅.get (c₄.get (S₃ t ht) (nk (by decide))) (nk (by decide))) ?_ fun r hr' s hs=>?_
 ·rfl
 ·rfl
 ·rfl
 ·exact c₅.back (c₄.back (c₃.back (c₂.back (c₁.weaken fun _ _ q=>by
   have q:_∈[K.hp]:=q
   rw [List.mem_singleton] at q;rw [q];exact List.Mem.head _) side_no) side_same) (side_ks (by decide))) (side_ks (by decide))
 ·rw [←hne]
  exact (tgt_next G ho hr (R.ok r hr' s hs) (hk1 r hr' s hs)).1
set_option genInjectivity false
local macro_rules | `(tactic| o_fieldsN) => `(tactic| first | (apply BinY.addO; rfl) | (apply BinY.addOL; rfl) | (apply BinY.fdivO; rfl; rfl) | (apply BinY.modO; rfl; rfl) | apply BinY.addN | (apply BinY.fdivN; exact ⟨by decide, by decide⟩) | (apply BinY.modN; decide))
structure Scr (i:WId) (ns:List Int) (T:TH):Prop where
 at_:T[i.scr]?=some (.scr,.list (ns.map .int))
 len:ns.length≤16
theorem sp_number {n:Nat} {i:WId} {f:WN} {ns:List Int} {T:TH} {Q:V→TH→Prop} (hw:T[i.w]?=some (.w,i.obj f)) (S:Scr i ns T) (hb:f.at_≤50000) (k:∀ (z:Nat) T',z<99991→T'[i.w]?=some (.w,i.obj {f with at_:=f.at_+1})→Chg (oneX i.w) T T'→Q (.int z) T'):CallY (CN (n+1)) 69 [.obj i.w] T Q:=by
 refine call_fn (fd:=fd_law_number) (by rfl) (by rfl) ?_
 show SV _ [some (.obj i.w)] _ _ _
 k_ownIn
 rename_i T₁ h₁ c₁
 have hs₁:=c₁.otherK S.at_ h₁ (by decide)
 have hl:=S.len
 refine LenY.list hs₁ (by rw [List.length_map];unfold limit;lia) ?_
 k_ownIn
 refine⟨fun hb'=>?_,fun hb'=>?_⟩
 ·dsimp only [List.cons_append,List.nil_append]
  k_ownIn
  exact k _ T₁ (Nat.mod_lt _ (by decide)) (by simpa [WId.obj,putAt,putO] using h₁) c₁
 ·dsimp only [List.cons_append,List.nil_append]
  rw [List.length_map] at hb'
  have hat:f.at_<ns.length:=by simp at hb';lia
  obtain⟨v,hv⟩:∃ v,ns[f.at_]?=some v:=⟨_,List.getElem?_eq_getElem hat⟩
  k_ownIn
  rw [show (((f.at_+1:Nat):Int)-1)=(f.at_:Int) by lia]
  refine IdxY.list hs₁ (at_nat (v:=.int v) (by rw [List.getElem?_map,hv];rfl) (by lia)) ?_
  k_ownIn
  have e:Int.fmod v 99991=((Int.fmod v 99991).toNat:Int):=by
   have:=Int.fmod_nonneg_of_pos v (b:=99991) (by decide)
   lia
  have e2:Int.fmod v 99991<99991:=Int.fmod_lt_of_pos v (by decide)
  rw [e]
  exact k _ T₁ (by lia) (by simpa [WId.obj,putAt,putO] using h₁) c₁
set_option genInjectivity false
structure Bk (i:WId) (f:WN) (ts:List Th) (T:TH):Prop where
 w:T[i.w]?=some (.w,i.obj f)
 ag:T[i.ag]?=some (.ag,.di (ts.map fun t=>((t.ser:Int),.int t.age)))
 wh:T[i.wh]?=some (.wh,.di (whL ts))
 wt:∃ wl,T[i.wt]?=some (.wt,.di wl)∧(∀ p∈wl,p.1≤f.made)∧wl.length≤f.made∧∀ t∈ts,dget wl (t.ser:Int)=some (.tup [.int t.kind,.obj t.pid])
 pid:∀ t∈ts,T[t.pid]?=some (.tspec,.list (t.specs.map Spec.v))
 top:f.top=endOf ts
 made:∀ t∈ts,t.ser≤f.made
theorem Bk.chg {i:WId} {f:WN} {ts:List Th} {T T':TH} {X:Nat→K→Prop} (b:Bk i f ts T) (c:Chg X T T') (n:∀ i,¬ X i .w∧¬ X i .ag∧¬ X i .wh∧¬ X i .wt∧¬ X i .tspec):Bk i f ts T':=by
 obtain⟨b1,b2,b3,⟨wl,b4,b4'⟩,b5,b6,b7⟩:=b
 exact⟨c.get b1 (n _).1,c.get b2 (n _).2.1,c.get b3 (n _).2.2.1,⟨wl,c.get b4 (n _).2.2.2.1,b4'⟩,fun t ht=>c.get (b5 t ht) (n _).2.2.2.2,b6,b7⟩
theorem dget_app {l:List (Int×V)} {k k':Int} {v:V} (h:k'≠k):dget (l++[(k,v)]) k'=dget l k':=by
 induction l with
 | nil=>simp [dget,Ne.symm h]
 | cons p r ih =>
  show dget (p::(r++[(k,v)])) k'=dget (p::r) k'
  unfold dget
  split
  ·rfl
  ·exact ih
theorem dget_new {l:List (Int×V)} {k:Int} {v:V} (h:∀ p∈l,p.1≠k):dget (l++[(k,v)]) k=some v:=by
 induction l with
 | nil=>simp [dget]
 | cons p r ih =>
  show dget (p::(r++[(k,v)])) k=_
  unfold dget
  rw [if_neg (h p (.head _))]
  exact ih fun q hq=>h q (.tail _ hq)
theorem le_ne {m:Nat} {x:Int} (h:x≤m):x≠((m+1:Nat):Int):=Int.ne_of_lt (Int.lt_of_le_of_lt h (Int.ofNat_lt.mpr (Nat.lt_succ_self m)))
theorem ser_ne {ts:List Th} {g:Th→V} {m:Nat} (h:∀ t∈ts,t.ser≤m):∀ p∈ts.map (fun t=>((t.ser:Int),g t)),p.1≠((m+1:Nat):Int):=fun p hp=>by
 obtain⟨u,hu,rfl⟩:=List.mem_map.mp hp
 exact le_ne (Int.ofNat_le.mpr (h u hu))
theorem wh_ne {ts:List Th} {m:Nat} (h:∀ t∈ts,t.ser≤m):∀ p∈whL ts,p.1≠((m+1:Nat):Int):=ser_ne (g:=fun t=>.int t.addr) h
set_option maxHeartbeats 1000000 in
theorem sp_noted {n:Nat} {i:WId} {f:WN} {ts:List Th} {t:Th} {T:TH} {Q:V→TH→Prop} (B:Bk i f ts T) (hb:f.made≤50000) (hlim:ts.length≤50000) (h1:t.ser=f.made+1) (h2:t.addr=f.top) (h3:t.age=0) (hp:T[t.pid]?=some (.tspec,.list (t.specs.map Spec.v))) (hsl:t.specs.length≤1000)
  (k:∀ T',Bk i {f with made:=f.made+1,top:=f.top+t.size} (ts++[t]) T'→Chg (ksX [.w,.ag,.wh,.wt]) T T'→Q (.int (f.made+1:Nat)) T'):CallY (CN (n+1)) 71 [.obj i.w,.int t.kind,.obj t.pid] T Q:=by
 obtain⟨wl,b4,b41,b42,b43⟩:=B.wt
 have bw:=B.w
 refine call_fn (fd:=fd_law_noted) (by rfl) (by rfl) ?_
 refine (?_:SV _ [some (.obj i.w),some (.int t.kind),some (.obj t.pid)] _ _ _)
 k_ownIn
 rename_i T₁ h₁ c₁
 refine IdxPut.di (c₁.otherK b4 h₁ (by decide)) (Nat.lt_of_le_of_lt (Nat.le_trans b42 hb) (Nat.le_of_ble_eq_true rfl)) ?_
 rw [dput_new fun p hp=>le_ne (b41 p hp)]
 refine PutY.intro fun T₂ h₂ c₂=>?_
 have h₁₂:=c₂.otherK h₁ h₂ (by decide)
 have ag₂:=c₂.otherK (c₁.otherK B.ag h₁ (by decide)) h₂ (by decide)
 have wh₂:=c₂.otherK (c₁.otherK B.wh h₁ (by decide)) h₂ (by decide)
 have q₂:OffP [31] T T₂:=(OffP.one c₁ h₁).tr (.one c₂ h₂)
 have cc:=c₂.back (c₁.back (.refl (ksX [.w,.ag,.wh,.wt]) T) (side_kind bw (by decide))) (side_kind b4 (by decide))
 clear c₁ c₂ h₁
 k_ownIn
 refine IdxPut.di ag₂ (lmL hlim) ?_
 rw [dput_new (ser_ne (g:=fun t=>.int t.age) B.made)]
 refine PutY.intro fun T₃ h₃ c₃=>?_
 have h₁₃:=c₃.otherK h₁₂ h₃ (by decide)
 have wh₃:=c₃.otherK wh₂ h₃ (by decide)
 have wt₃:=c₃.otherK h₂ h₃ (by decide)
 have q₃:OffP [31] T T₃:=q₂.tr (.one c₃ h₃)
 have cc:=c₃.back cc (side_kind B.ag (by decide))
 clear c₃ q₂ h₁₂ wh₂ h₂ ag₂
 k_ownIn
 refine IdxPut.di wh₃ (lmL hlim) ?_
 rw [dput_new (wh_ne B.made)]
 refine PutY.intro fun T₄ h₄ c₄=>?_
 have h₁₄:=c₄.otherK h₁₃ h₄ (by decide)
 have q₄:OffP [31] T T₄:=q₃.tr (.one c₄ h₄)
 have p₄:OffP [24,25] T₃ T₄:=.one c₄ h₄
 have cc:=c₄.back cc (side_kind B.wh (by decide))
 have hp₄:=q₄.g hp rfl
 clear c₄ h₁₃ wh₃ q₃
 k_ownIn
 refine LenY.map hp₄ hsl ?_
 k_ownIn
 rename_i T₅ h₅ c₅
 have q₅:OffP [31] T T₅:=q₄.tr (.one c₅ h₅)
 refine k T₅ ⟨?_,?_,?_,⟨wl++[(((f.made+1:Nat):Int),.tup [.int t.kind,.obj t.pid])],c₅.otherK (p₄.g wt₃ rfl) h₅ (by decide),fun p hp'=>(List.mem_append.mp hp').elim (fun q=>Int.le_trans (b41 p q) (Int.ofNat_le.mpr (Nat.le_succ _))) fun q=>List.mem_singleton.mp q▸Int.le_refl _,?_,fun u hu=>?_⟩,fun u hu=>?_,?_,fun u hu=>?_⟩ (c₅.back cc (side_kind bw (by decide)))
 ·exact h₅.trans (congrArg (fun m:Nat=>some (K.w,WId.obj i {f with made:=f.made+1,top:=m})) (Nat.add_assoc f.top 2 t.specs.length))
 ·rw [List.map_append,List.map_singleton,h1,h3];exact c₅.otherK (p₄.g h₃ rfl) h₅ (by decide)
 ·unfold whL
  rw [List.map_append,List.map_singleton,h1,h2];exact c₅.otherK h₄ h₅ (by decide)
 ·rw [List.length_append];exact Nat.succ_le_succ b42
 ·rcases List.mem_append.mp hu with q|q
  ·rw [dget_app (le_ne (Int.ofNat_le.mpr (B.made u q)))];exact b43 u q
  ·rw [List.mem_singleton.mp q,h1]
   exact dget_new fun p hp=>le_ne (b41 p hp)
 ·rcases List.mem_append.mp hu with q|q
  ·exact q₅.g (B.pid u q) rfl
  ·rw [List.mem_singleton.mp q];exact q₅.g hp rfl
 ·show f.top+t.size=_;rw [endOf_snoc,B.top]
 ·exact (List.mem_append.mp hu).elim (fun q=>Nat.le_succ_of_le (B.made u q)) fun q=>by rw [List.mem_singleton.mp q];exact Nat.le_of_eq h1
set_option genInjectivity false
structure HW (i:WId) (f:WN) (h:Hid) (hf:Hn) (ts:List Th) (T:TH):Prop where
 hb:HB h ts hf T
 sl:SL ts T
 good:Good ts
 bk:Bk i f ts T
 made:hf.made=f.made
 sh:∃ fs,T[i.m]?=some (.m,.inst 10 fs)∧fs[2]?=some (.obj h.hp)
theorem HW.chg {i:WId} {f:WN} {h:Hid} {hf:Hn} {ts:List Th} {T T':TH} {X:Nat→K→Prop} (b:HW i f h hf ts T) (c:Chg X T T') (n:∀ i,¬ X i .w∧¬ X i .ag∧¬ X i .wh∧¬ X i .wt∧¬ X i .tspec) (n2:∀ i,¬ X i .hp∧¬ X i .tl∧¬ X i .at_∧¬ X i .cd∧¬ X i .fin∧¬ X i .th) (n3:∀ i,¬ X i .slots∧¬ X i .m) (nr:¬ X h.rdy .real):HW i f h hf ts T':=by
 obtain⟨b1,b2,b3,b4,b5,fs,b6,b7⟩:=b
 exact⟨b1.keep c n2 nr,fun t ht=>c.get (b2 t ht) (n3 _).1,b3,b4.chg c n,b5,fs,c.get b6 (n3 _).2,b7⟩
theorem HW.chg0 {i:WId} {f:WN} {h:Hid} {hf:Hn} {ts:List Th} {T T':TH} (b:HW i f h hf ts T) (c:Chg noX T T'):HW i f h hf ts T':=b.chg c (fun _=>⟨id,id,id,id,id⟩) (fun _=>⟨id,id,id,id,id,id⟩) (fun _=>⟨id,id⟩) id
theorem find_append {ts:List Th} {t:Th} {x:Nat} (h:∃ u∈ts,u.ser=x):(ts++[t]).find? (fun t=>t.ser==x)=ts.find? (fun t=>t.ser==x):=by
 rw [List.find?_append]
 cases q:ts.find? (fun t=>t.ser==x) with
 | some u=>rfl
 | none =>
  obtain⟨u,hu,e⟩:=h
  have:=List.find?_eq_none.mp q u hu
  simp [e] at this
theorem ok_has {ts:List Th} {s:Spec} (hs:s.Ok ts) (h:0<s.one):∃ u∈ts,u.ser=s.one:=by
 obtain⟨_,t,ht,e,_⟩:=hs.one h;exact⟨t,ht,e⟩
theorem tgt_append {ts:List Th} {t:Th} {s:Spec} (hs:s.Ok ts):tgt (ts++[t]) s=tgt ts s:=by
 unfold tgt
 split
 ·exact find_append (ok_has hs (by assumption))
 ·rfl
theorem val_append {ts:List Th} {t:Th} {s:Spec} (hs:s.Ok ts):s.val (whOf (ts++[t]))=s.val (whOf ts):=by
 rw [val_tgt,val_tgt,tgt_append hs]
theorem Spec.Ok.append {ts:List Th} {t:Th} {s:Spec} (hs:s.Ok ts):s.Ok (ts++[t]):=⟨hs.form,hs.n,fun h=>by obtain⟨a,u,hu,b⟩:=hs.one h;exact⟨a,u,List.mem_append_left _ hu,b⟩,hs.place⟩
theorem Good.snoc {ts:List Th} {t:Th} (G:Good ts) (h1:t.addr=endOf ts) (h2:∀ u∈ts,u.ser<t.ser) (h3:t.age=0) (hok:∀ s∈t.specs,s.Ok ts) (hage:∀ s∈t.specs,∀ v,tgt ts s=some v→v.age=0) (hlen:t.specs.length≤10)
  (htid:∀ u∈ts,u.tid≠t.tid) (hsid:∀ u∈ts,u.sid≠t.sid) (hpos:0<t.ser):Good (ts++[t]):=by
 have one:∀ {P:Th→Prop},(∀ u∈ts,P u)→P t→∀ u∈ts++[t],P u:=fun h h' u hu=>by
  rcases List.mem_append.mp hu with q|q
  ·exact h u q
  ·rw [List.mem_singleton] at q;rw [q];exact h'
 refine⟨G.packed.snoc h1,?_,?_,one G.age2 (by omega),one G.pos hpos,one (fun u hu s hs=>(G.ok u hu s hs).append) fun s hs=>(hok s hs).append,one (fun u hu s hs v hv=>?_) fun s hs v hv=>?_,one G.len hlen,?_,?_⟩
 ·refine List.pairwise_append.mpr ⟨G.ser,by simp,fun a ha b hb=>?_⟩
  rw [List.mem_singleton] at hb;rw [hb];exact h2 a ha
 ·refine List.pairwise_append.mpr ⟨G.aged,by simp,fun a ha b hb=>?_⟩
  rw [List.mem_singleton] at hb;rw [hb,h3];exact Nat.zero_le _
 ·rw [tgt_append (G.ok u hu s hs)] at hv
  exact G.same u hu s hs v hv
 ·rw [tgt_append (hok s hs)] at hv
  rw [hage s hs v hv,h3]
 ·rw [List.map_append]
  refine List.nodup_append.mpr ⟨G.tid,by simp,fun a ha b hb e=>?_⟩
  obtain⟨u,hu,rfl⟩:=List.mem_map.mp ha
  simp at hb
  exact htid u hu (e.trans hb)
 ·rw [List.map_append]
  refine List.nodup_append.mpr ⟨G.sid,by simp,fun a ha b hb e=>?_⟩
  obtain⟨u,hu,rfl⟩:=List.mem_map.mp ha
  simp at hb
  exact hsid u hu (e.trans hb)
theorem HW.more {i:WId} {f:WN} {h:Hid} {hf hf':Hn} {ts:List Th} {t:Th} {T T':TH} (b:HW i f h hf ts T) (hb':HB h (ts++[t]) hf' T') (bk':Bk i {f with made:=f.made+1,top:=f.top+t.size} (ts++[t]) T') (c:Chg (ksX [.hp,.tl,.at_,.w,.ag,.wh,.wt]) T T') (hm:hf'.made=hf.made+1)
  (h1:t.addr=endOf ts) (h2:t.ser=f.made+1) (h3:t.age=0) (hok:∀ s∈t.specs,s.Ok ts) (hage:∀ s∈t.specs,∀ v,tgt ts s=some v→v.age=0) (hlen:t.specs.length≤10) (htid:T[t.tid]?=none) (hsid:T[t.sid]?=none) (hsl:T'[t.sid]?=some (.slots,.list (t.specs.map (Spec.val (whOf ts))))) :
  HW i {f with made:=f.made+1,top:=f.top+t.size} h hf' (ts++[t]) T':=by
 refine⟨hb',fun u hu=>?_,b.good.snoc h1 (fun u hu=>by have:=b.bk.made u hu;lia) h3 hok hage hlen (fun u hu=>ne_none (b.hb.th u hu) htid) (fun u hu=>ne_none (b.sl u hu) hsid) (by lia),bk',by rw [hm,b.made],?_⟩
 ·rcases List.mem_append.mp hu with q|q
  ·rw [List.map_congr_left fun s hs=>val_append (b.good.ok u q s hs)]
   exact c.get (b.sl u q) (nk (by decide))
  ·rw [List.mem_singleton] at q;subst q
   rw [List.map_congr_left fun s hs=>val_append (hok s hs)]
   exact hsl
 ·obtain⟨fs,e,e'⟩:=b.sh
  exact⟨fs,c.get e (nk (by decide)),e'⟩
theorem filterMap_some {α β:Type} {l:List α} {g:α→β}:l.filterMap (fun x=>some (g x))=l.map g:=by
 show List.filterMap (some ∘ g) l=_
 rw [List.filterMap_eq_map]
theorem vals_items {n:Nat} {i:WId} {f:WN} {ts:List Th} {specs:List Spec} {T:TH} {ρ:Rho} {cap:List Nat} (hw:T[i.w]?=some (.w,i.obj f)) (hwh:T[i.wh]?=some (.wh,.di (whL ts))) (hok:∀ s∈specs,s.Ok ts) (hc:cap.map (fun i=>(ρ[i]?).join)=[some (.obj i.w)]) :
  ∃ g:V→Option V,(specs.map Spec.v).filterMap g=specs.map (Spec.val (whOf ts))∧∀ x T',x∈specs.map Spec.v→Chg noX T T'→ItemC (CN (n+1)) (capOf ρ cap x) (.call 70 [(.loc 0),(.loc 1)]) (.lit (.bool true)) T' (g x):=by
 have inj:∀ a b:Spec,a.v=b.v→a=b:=by
  rintro⟨a1,a2,a3⟩ ⟨b1,b2,b3⟩ e
  simp [Spec.v] at e
  obtain⟨e1,e2,e3⟩:=e
  rw [show a1=b1 by lia,show a2=b2 by lia,show a3=b3 by lia]
 classical
 refine⟨fun x=>some (if h:∃ s∈specs,s.v=x then (Classical.choose h).val (whOf ts) else .none),?_,fun x T' hx c=>?_⟩
 ·rw [filterMap_some,List.map_map]
  refine List.map_congr_left fun s hs=>?_
  have hex:∃ s'∈specs,s'.v=s.v:=⟨s,hs,rfl⟩
  show (if h:∃ s'∈specs,s'.v=s.v then (Classical.choose h).val (whOf ts) else .none)=_
  rw [dif_pos hex]
  rw [inj _ _ (Classical.choose_spec hex).2]
 ·obtain⟨s,hs,rfl⟩:=List.mem_map.mp hx
  have hex:∃ s'∈specs,s'.v=s.v:=⟨s,hs,rfl⟩
  refine⟨?_,rfl,rfl⟩
  rw [dif_pos hex,inj _ _ (Classical.choose_spec hex).2]
  unfold capOf
  rw [hc]
  k_ownIn
  refine sp_value (c.keep hw) (c.keep hwh) (hok s hs) ?_
  exact⟨rfl,rfl⟩
set_option genInjectivity false
theorem kFld.of {i:Nat} {Q:PE'} {T:TH} {fs:List V} {v:V} (e:fs[i]?=some v) (h:Q v T):kFld Q T i fs:=by unfold kFld;rw [e];exact h
noncomputable def freshB:List S:=match fd_law_fresh.body with
 | [_,.forR _ _ b,_]=>b
 | _=>[]
theorem IdxY.three {T:TH} {a b c:V} {j:Nat} {Q:V→Prop} (h0:j%3=0→Q a) (h1:j%3=1→Q b) (h2:j%3=2→Q c):IdxY T Q (.tup [a,b,c]) (.int (j%3:Nat)):=by
 have:j%3<3:=Nat.mod_lt _ (by decide)
 rcases hj:j%3 with _|_|_|x
 ·exact .tupN rfl (by decide) (h0 hj)
 ·exact .tupN rfl (by decide) (h1 hj)
 ·exact .tupN rfl (by decide) (h2 hj)
 ·lia
theorem IdxY.two {T:TH} {a b:V} {j:Nat} {Q:V→Prop} (h0:j%2=0→Q a) (h1:j%2=1→Q b):IdxY T Q (.tup [a,b]) (.int (j%2:Nat)):=by
 have:j%2<2:=Nat.mod_lt _ (by decide)
 rcases hj:j%2 with _|_|x
 ·exact .tupN rfl (by decide) (h0 hj)
 ·exact .tupN rfl (by decide) (h1 hj)
 ·lia
set_option maxHeartbeats 1000000 in
theorem fresh_turn {n:Nat} {i:WId} {f:WN} {h:Hid} {hf:Hn} {ts:List Th} {T:TH} {z one j:Nat} {x y:Option V} {Q:Option V×Rho→TH→Prop} (W:HW i f h hf ts T) (hb:f.made≤20000) (hlim:ts.length≤20000) (hj:j≤1)
  (hone:0<one→∃ u∈ts,u.ser=one∧u.age=0)
  (k:∀ hf' t T' ρ,HW i {f with made:=f.made+1,top:=f.top+t.size} h hf' (ts++[t]) T'→Chg (ksX [.hp,.tl,.at_,.w,.ag,.wh,.wt]) T T'→t.ser=f.made+1→t.age=0→t.specs.length=2→ρ=[some (.obj i.w),some (.int z),some (.int (f.made+1:Nat)),some (.int j),some (.obj t.pid),some (.int t.kind)]→Q (none,ρ) T') :
  SV (CN (n+3)) [some (.obj i.w),some (.int z),some (.int one),some (.int j),x,y] freshB T Q:=by
 have bw:=W.bk.w
 obtain⟨fs,sh1,sh2⟩:=W.sh
 have bh:=W.hb.hp
 unfold hpObj at bh
 unfold freshB fd_law_fresh
 dsimp only
 have forms:∀ {Q:V→Prop},(∀ form:Nat,(form=0∨form=2∨form=3)→Q (.int form))→IdxY T Q (.tup [.int 0,.int 2,.int 3]) (.int ((z/2+j)%3:Nat)):=fun h=>.three (fun _=>h 0 (.inl rfl)) (fun _=>h 2 (.inr (.inl rfl))) (fun _=>h 3 (.inr (.inr rfl)))
 k_ownIn
 refine AnyK.mk .tspec ?_
 k_ownIn
 refine forms fun form hform=>?_
 k_ownIn
 rename_i pid T₁ hn₁ h₁ c₁
 have kinds:∀ {T:TH} {Q:V→Prop},(∀ kd:Int,Q (.int kd))→IdxY T Q kindsV (.int ((z+j)%2:Nat)):=fun h=>.two (fun _=>h 16) (fun _=>h 17)
 refine kinds fun kd=>?_
 let specs:List Spec:=[⟨4,0,j⟩,⟨form,one,j⟩]
 have hok:∀ s∈specs,s.Ok ts:=by
  intro s hs
  simp only [specs,List.mem_cons,List.not_mem_nil,or_false] at hs
  rcases hs with rfl|rfl
  ·exact⟨show 4≤7 by decide,show j≤2 by lia,fun h=>absurd (show 0<0 from h) (by decide),fun h=>absurd (show 4=1 from h) (by decide)⟩
  ·refine⟨by show form≤7;lia,by show j≤2;lia,fun h=>?_,fun h=>by have h:form=1:=h;lia⟩
   obtain⟨u,hu,e,_⟩:=hone h
   exact⟨by show form<4;lia,u,hu,e,fun h=>by have h:form=1:=h;lia⟩
 have hage:∀ s∈specs,∀ v,tgt ts s=some v→v.age=0:=by
  intro s hs v hv
  obtain⟨hv1,hv2,hv3⟩:=tgt_mem hv
  simp only [specs,List.mem_cons,List.not_mem_nil,or_false] at hs
  rcases hs with rfl|rfl
  ·exact absurd (show 0<0 from hv2) (by decide)
  ·obtain⟨u,hu,e,e'⟩:=hone hv2
   rw [sers_of W.good.sers v hv1 u hu (hv3.trans e.symm)];exact e'
 have hp₁:T₁[pid]?=some (.tspec,.list (specs.map Spec.v)):=h₁
 k_ownIn
 obtain⟨g,hg1,hg2⟩:=vals_items (ρ:=[some (.obj i.w),some (.int z),some (.int one),some (.int j),some (.obj pid),some (.int kd)]) (cap:=[0]) (c₁.keep W.bk.w) (c₁.keep W.bk.wh) hok rfl
 refine kFld.of sh2 ?_
 k_ownIn
 refine CompY.mk .slots g hp₁ (by simp [specs,limit]) hg2 ?_
 refine NewY.intro ?_
 intro sid T₂ hn₂ h₂ c₂
 have h₂:T₂[sid]?=some (.slots,.list (specs.map (Spec.val (whOf ts)))):=by rw [h₂,←hg1]
 have W₂:=W.chg0 (c₁.tr c₂)
 k_ownIn
 refine sp_alloc (pid:=pid) (specs:=specs) W₂.hb W₂.good.packed (by lia) h₂ ⟨by simp [specs],by simp [specs,limit]⟩ (by simp) fun tid T₃ hn₃ hb₃ c₃=>?_
 have hlenm:(specs.map (Spec.val (whOf ts))).length=2:=by simp [specs]
 rw [hlenm] at hb₃
 have bk₃:=W₂.bk.chg c₃ fun _=>⟨nk (by decide),nk (by decide),nk (by decide),nk (by decide),nk (by decide)⟩
 have hp₃:T₃[pid]?=some (.tspec,.list (specs.map Spec.v)):=c₃.get (c₂.keep hp₁) (nk (by decide))
 k_ownIn
 refine sp_noted (t:=⟨hf.made+1,kd,specs,0,endOf ts,tid,sid,pid⟩) bk₃ (by lia) (by lia) (by rw [←W.made]) W.bk.top.symm rfl hp₃ (by simp [specs]) fun T₄ bk₄ c₄=>?_
 k_ownIn
 have cc:Chg (ksX [.hp,.tl,.at_,.w,.ag,.wh,.wt]) T T₄:=c₄.back (c₃.back (c₂.back (c₁.weaken fun _ _ q=>q.elim) side_no) (side_ks (by decide))) (side_ks (by decide))
 refine k _ ⟨hf.made+1,kd,specs,0,endOf ts,tid,sid,pid⟩ T₄ _ (W.more (hb₃.keep c₄ (fun _=>⟨nk (by decide),nk (by decide),nk (by decide),nk (by decide),nk (by decide),nk (by decide)⟩) (nk (by decide))) bk₄ cc rfl rfl (by rw [W.made]) rfl hok hage (by simp [specs]) (none_back hn₃ ((c₁.tr c₂).weaken fun _ _ q=>q.elim)) (none_back hn₂ (c₁.weaken fun _ _ q=>q.elim)) (c₄.get (c₃.get h₂ (nk (by decide))) (nk (by decide)))) cc (by rw [←W.made]) rfl rfl rfl
set_option genInjectivity false
structure Grow (ts ts':List Th):Prop where
 ok:∀ s:Spec,s.Ok ts→s.Ok ts'
 val:∀ s:Spec,s.Ok ts→s.val (whOf ts')=s.val (whOf ts)
 sub:∀ t∈ts,t∈ts'
theorem Grow.refl (ts:List Th):Grow ts ts:=⟨fun _ h=>h,fun _ _=>rfl,fun _ h=>h⟩
theorem Grow.trans {a b c:List Th} (x:Grow a b) (y:Grow b c):Grow a c:=⟨fun s h=>y.ok s (x.ok s h),fun s h=>(y.val s (x.ok s h)).trans (x.val s h),fun t h=>y.sub t (x.sub t h)⟩
theorem Grow.snoc (ts:List Th) (t:Th):Grow ts (ts++[t]):=⟨fun _ h=>h.append,fun _ h=>val_append h,fun _ h=>List.mem_append_left _ h⟩
noncomputable abbrev freshX:Nat→K→Prop:=ksX [.hp,.tl,.at_,.w,.ag,.wh,.wt]
structure NGrow (f f':WN) (k:Nat):Prop where
 at_:f'.at_=f.at_
 count:f'.count=f.count
 made:f'.made≤f.made+k
 le:f.made≤f'.made
theorem NGrow.refl (f:WN) (k:Nat):NGrow f f k:=⟨rfl,rfl,by lia,Nat.le_refl _⟩
theorem NGrow.trans {f f' f'':WN} {a b:Nat} (x:NGrow f f' a) (y:NGrow f' f'' b):NGrow f f'' (a+b):=⟨y.at_.trans x.at_,y.count.trans x.count,by have:=x.made;have:=y.made;lia,Nat.le_trans x.le y.le⟩
theorem NGrow.mono {f f':WN} {a b:Nat} (x:NGrow f f' a) (h:a≤b):NGrow f f' b:=⟨x.at_,x.count,by have:=x.made;lia,x.le⟩
theorem good_len {i:WId} {f:WN} {h:Hid} {hf:Hn} {ts:List Th} {T:TH} (W:HW i f h hf ts T):ts.length≤f.made:=by
 have h1:=W.good.ser
 have h2:=W.good.pos
 have h3:=W.bk.made
 clear W
 have:∀ (l:List Th) (m:Nat),l.Pairwise (fun a b=>a.ser<b.ser)→(∀ t∈l,m<t.ser)→(∀ t∈l,t.ser≤f.made)→m≤f.made→l.length+m≤f.made:=by
  intro l
  induction l with
  | nil=>intro m _ _ _ h;simpa using h
  | cons a r ih =>
   intro m hp hm hf' hmf
   rw [List.pairwise_cons] at hp
   have:=ih a.ser hp.2 hp.1 (fun t ht=>hf' t (.tail _ ht)) (hf' a (.head _))
   have:=hm a (.head _)
   simp only [List.length_cons];omega
 have:=this ts 0 h1 h2 h3 (Nat.zero_le _)
 omega
set_option maxHeartbeats 1000000 in
theorem sp_fresh {n:Nat} {i:WId} {f:WN} {h:Hid} {hf:Hn} {ts:List Th} {T:TH} {z:Nat} {Q:V→TH→Prop} (W:HW i f h hf ts T) (hb:f.made≤10000)
  (k:∀ f' hf' ts' T',HW i f' h hf' ts' T'→NGrow f f' 2→Grow ts ts'→0<f'.made→(∃ t∈ts',t.ser=f'.made∧t.specs.length=2)→Chg freshX T T'→Q (.int f'.made) T'):CallY (CN (n+4)) 72 [.obj i.w,.int z] T Q:=by
 have hl:=good_len W
 refine call_fn (fd:=fd_law_fresh) (by rfl) (by rfl) ?_
 show SV _ [some (.obj i.w),some (.int z),none,none,none,none] _ _ _
 k_ownIn
 have hz:z%2<2:=Nat.mod_lt _ (by decide)
 refine RangeY.unroll (n:=1+z%2) (by unfold limit;lia) ?_
 have e:1+z%2=1∨1+z%2=2:=by lia
 rcases e with e|e
 ·rw [e]
  refine RV.step ?_
  refine fresh_turn (one:=0) W (by lia) (by lia) (by lia) (fun h=>absurd h (by decide)) fun hf' t T' ρ W' c' h1 h2 h3 hρ=>?_
  subst hρ
  k_ownIn
  exact k _ _ _ T' W' ⟨rfl,rfl,by simp,by simp⟩ (.snoc _ _) (by simp) ⟨t,by simp,h1,h3⟩ c'
 ·rw [e]
  refine RV.step ?_
  refine fresh_turn (one:=0) W (by lia) (by lia) (by lia) (fun h=>absurd h (by decide)) fun hf' t T' ρ W' c' h1 h2 h3 hρ=>?_
  subst hρ
  refine RV.step ?_
  refine fresh_turn (one:=f.made+1) (j:=1) W' (by simp;lia) (by simp;lia) (by lia) (fun _=>⟨t,by simp,h1,h2⟩) fun hf'' t' T'' ρ W'' c'' g1 g2 g3 hρ=>?_
  subst hρ
  k_ownIn
  exact k _ _ _ T'' W'' ⟨rfl,rfl,by simp,by simp;lia⟩ ((Grow.snoc _ _).trans (.snoc _ _)) (by simp) ⟨t',by simp,g1,g3⟩ (c'.tr c'')
structure Ce where
 tag:Str
 specs:List Spec
 rid:Nat
 pid:Nat
noncomputable def Ce.v (c:Ce):V:=.tup [.str c.tag,.obj c.rid,.obj c.pid]
structure CL (i:WId) (ts:List Th) (cells:List Ce) (T:TH):Prop where
 ce:T[i.ce]?=some (.ce,.list (cells.map Ce.v))
 row:∀ c∈cells,T[c.rid]?=some (.real,.list (c.specs.map (Spec.val (whOf ts))))
 spec:∀ c∈cells,T[c.pid]?=some (.cspec,.list (c.specs.map Spec.v))
 ok:∀ c∈cells,∀ s∈c.specs,s.Ok ts
 rn:(cells.map Ce.rid).Nodup
 pn:(cells.map Ce.pid).Nodup
 len:∀ c∈cells,c.specs.length≤10
theorem CL.grow {i:WId} {ts ts':List Th} {cells:List Ce} {T T':TH} {X:Nat→K→Prop} (C:CL i ts cells T) (g:Grow ts ts') (c:Chg X T T') (n:∀ i,¬ X i .ce∧¬ X i .real∧¬ X i .cspec):CL i ts' cells T':=by
 refine⟨c.get C.ce (n _).1,fun x hx=>?_,fun x hx=>c.get (C.spec x hx) (n _).2.2,fun x hx s hs=>g.ok s (C.ok x hx s hs),C.rn,C.pn,C.len⟩
 rw [List.map_congr_left fun s hs=>g.val s (C.ok x hx s hs)]
 exact c.get (C.row x hx) (n _).2.1
theorem CL.fresh {i:WId} {ts ts':List Th} {cells:List Ce} {T T':TH} (C:CL i ts cells T) (g:Grow ts ts') (c:Chg freshX T T'):CL i ts' cells T':=C.grow g c fun _=>⟨nk (by decide),nk (by decide),nk (by decide)⟩
theorem CL.chg0 {i:WId} {ts:List Th} {cells:List Ce} {T T':TH} (C:CL i ts cells T) (c:Chg noX T T'):CL i ts cells T':=C.grow (.refl _) c fun _=>⟨id,id,id⟩
noncomputable abbrev rowX1 (r c:Nat):Nat→K→Prop:=fun i _=>i=r∨i=c
theorem HW.off {i:WId} {f:WN} {h:Hid} {hf:Hn} {ts:List Th} {T T':TH} (W:HW i f h hf ts T) (q:OffP [1,2,3,5,11,12,13,14,24,25,26,30,31] T T') (r:T'[h.rdy]?=some (.real,.list [])):HW i f h hf ts T' :=
 ⟨⟨q.g W.hb.hp rfl,q.g W.hb.tl rfl,q.g W.hb.at_ rfl,q.g W.hb.cd rfl,q.g W.hb.fin rfl,r,fun t ht=>q.g (W.hb.th t ht) rfl⟩,fun t ht=>q.g (W.sl t ht) rfl,W.good,
  ⟨q.g W.bk.w rfl,q.g W.bk.ag rfl,q.g W.bk.wh rfl,W.bk.wt.elim fun wl h=>⟨wl,q.g h.1 rfl,h.2⟩,fun t ht=>q.g (W.bk.pid t ht) rfl,W.bk.top,W.bk.made⟩,W.made,W.sh.elim fun fs h=>⟨fs,q.g h.1 rfl,h.2⟩⟩
theorem nodup_end {l:List Nat} {a:Nat} (h:l.Nodup) (n:a∉l):(l++[a]).Nodup:=List.nodup_append.mpr ⟨h,List.pairwise_singleton ..,fun x hx y hy e=>n (List.mem_singleton.mp hy▸e▸hx)⟩
theorem snoc_all {α:Type} {l:List α} {a:α} {P:α→Prop} (h:∀ x∈l,P x) (ha:P a):∀ x∈l++[a],P x:=fun x hx=>(List.mem_append.mp hx).elim (h x) fun hx=>List.mem_singleton.mp hx▸ha
theorem CL.putx {i:WId} {ts:List Th} {cells:List Ce} {T T':TH} {tag:Str} {rid pid:Nat} {specs:List Spec} (C:CL i ts cells T) (hp:T[pid]?=some (.cspec,.list (specs.map Spec.v))) (hok:∀ s∈specs,s.Ok ts) (hl:specs.length≤10) (hrn:rid∉cells.map Ce.rid) (hpn:pid∉cells.map Ce.pid)
  (q:OffP [32] T T') (hr:∀ c∈cells,T'[c.rid]?=some (.real,.list (c.specs.map (Spec.val (whOf ts))))) (hr':T'[rid]?=some (.real,.list (specs.map (Spec.val (whOf ts))))) (hce:T'[i.ce]?=some (.ce,.list ((cells++[(⟨tag,specs,rid,pid⟩:Ce)]).map Ce.v))):CL i ts (cells++[⟨tag,specs,rid,pid⟩]) T' :=
 ⟨hce,snoc_all hr hr',snoc_all (fun c hc=>q.g (C.spec c hc) rfl) (q.g hp rfl),snoc_all C.ok hok,by rw [List.map_append];exact nodup_end C.rn hrn,by rw [List.map_append];exact nodup_end C.pn hpn,snoc_all C.len hl⟩
set_option maxHeartbeats 1000000 in
theorem sp_lput {n:Nat} {i:WId} {f:WN} {h:Hid} {hf:Hn} {ts:List Th} {cells:List Ce} {T:TH} {tag:Str} {rid pid:Nat} {specs:List Spec} {Q:V→TH→Prop} (W:HW i f h hf ts T) (C:CL i ts cells T) (hcl:cells.length≤50000) (hr:T[rid]?=some (.real,.list [])) (hp:T[pid]?=some (.cspec,.list (specs.map Spec.v)))
  (hok:∀ s∈specs,s.Ok ts) (hl:specs.length≤10) (hrn:rid∉cells.map Ce.rid) (hpn:pid∉cells.map Ce.pid) (hrd:rid≠h.rdy)
  (k:∀ T',HW i f h hf ts T'→CL i ts (cells++[⟨tag,specs,rid,pid⟩]) T'→Chg (rowX1 rid i.ce) T T'→Q .none T'):CallY (CN (n+2)) 73 [.obj i.w,.str tag,.obj rid,.obj pid] T Q:=by
 refine call_fn (fd:=fd_law_put) (by rfl) (by rfl) ?_
 refine (?_:SV _ [some (.obj i.w),some (.str tag),some (.obj rid),some (.obj pid),none] _ _ _)
 refine ForY.split (G:=Option V) (fun x=>[some (.obj i.w),some (.str tag),some (.obj rid),some (.obj pid),x]) (fun pre _ _ T'=>T'[rid]?=some (.real,.list (pre.map (Spec.val (whOf ts))))∧Chg (oneX rid) T T') hp none ⟨hr,.refl _ _⟩ ?_ ?_
 ·rintro Q' pre s post x T' e ⟨hr',c'⟩ ho q _
  have hw:=c'.otherK W.bk.w hr' (by decide)
  have hwh:=c'.otherK W.bk.wh hr' (by decide)
  have hl2:pre.length≤10:=Nat.le_trans (by rw [←e,List.length_append];exact Nat.le_add_right _ _) hl
  k_ownIn
  refine sp_value hw hwh (hok s (e▸List.mem_append_right _ (.head _))) ?_
  k_ownIn
  refine⟨lmL hl2,PutY.tr c' fun T₂ h₂ c₂=>?_⟩
  k_ownIn
  exact q _ T₂ ⟨by rw [List.map_append];exact h₂,c₂⟩ (c₂.otherK hp h₂ (by decide))
 ·rintro x T' ⟨hr',c'⟩ _
  have hw:=c'.otherK W.bk.w hr' (by decide)
  have hce:=c'.otherK C.ce hr' (by decide)
  k_ownIn
  refine⟨lmL hcl,PutY.intro fun T₂ h₂ c₂=>?_⟩
  k_ownIn
  have cc:Chg (rowX1 rid i.ce) T T₂:=c'.trans c₂ (fun _ _ _ _ q=>.inl q) fun _ _ _ _ q=>.inr q
  have reals:∀ {j:Nat} {o:O},T[j]?=some (.real,o)→j≠rid→T₂[j]?=some (.real,o):=fun hj n=>c₂.otherK (c'.other hj n) h₂ (by decide)
  exact k T₂ (W.off ((OffP.one c' hr').tr (.one c₂ h₂)) (reals W.hb.rdy (Ne.symm hrd))) (C.putx hp hok hl hrn hpn ((OffP.one c' hr').tr (.one c₂ h₂)) (fun c hc=>reals (C.row c hc) fun q=>hrn (q▸List.mem_map_of_mem hc)) (c₂.otherK hr' h₂ (by decide)) (by rw [List.map_append];exact h₂)) cc
set_option genInjectivity false
noncomputable abbrev fillX (r c:Nat):Nat→K→Prop:=fun i k=>freshX i k∨i=r∨i=c
theorem IdxY.four {T:TH} {z:Nat} {Q:V→Prop} (h:∀ c:Nat,c≤2→Q (.int c)):IdxY T Q (.tup [.int 1,.int 1,.int 2,.int 0]) (.int (z%4:Nat)):=by
 have:z%4<4:=Nat.mod_lt _ (by decide)
 rcases hj:z%4 with _|_|_|_|x
 ·exact .tupN rfl (by decide) (h 1 (by decide))
 ·exact .tupN rfl (by decide) (h 1 (by decide))
 ·exact .tupN rfl (by decide) (h 2 (by decide))
 ·exact .tupN rfl (by decide) (h 0 (by decide))
 ·lia
theorem CL.free {i:WId} {ts:List Th} {cells:List Ce} {T:TH} (C:CL i ts cells T) {p:Nat} (hn:T[p]?=none):p∉cells.map Ce.rid∧p∉cells.map Ce.pid:=by
 refine⟨fun h=>?_,fun h=>?_⟩
 ·obtain⟨c,hc,rfl⟩:=List.mem_map.mp h
  rw [C.row c hc] at hn;cases hn
 ·obtain⟨c,hc,rfl⟩:=List.mem_map.mp h
  rw [C.spec c hc] at hn;cases hn
structure FI (i:WId) (f:WN) (h:Hid) (cells:List Ce) (pid j b:Nat) (f':WN) (hf':Hn) (ts ts':List Th) (specs:List Spec) (T₁ T:TH):Prop where
 W:HW i f' h hf' ts' T
 C:CL i ts' cells T
 g1:NGrow f f' b
 g2:Grow ts ts'
 p:T[pid]?=some (.cspec,.list (specs.map Spec.v))
 ok:∀ s∈specs,s.Ok ts'
 n:specs.length=j
 c:Chg (fun i k=>freshX i k∨i=pid) T₁ T
section
variable {n j b pid rid z:Nat} {i:WId} {f f':WN} {h:Hid} {hf hf':Hn} {ts ts':List Th} {cells:List Ce} {specs:List Spec} {T T₁:TH} {tag:Str} {s:Spec} {fs:List Nat}
theorem FI.snoc {T':TH} (D:FI i f h cells pid j b f' hf' ts ts' specs T₁ T) (nc:pid∉cells.map Ce.pid) (hs:s.Ok ts') (h':T'[pid]?=some (.cspec,.list (specs.map Spec.v++[s.v]))) (c:Chg (oneX pid) T T'):FI i f h cells pid (j+1) b f' hf' ts ts' (specs++[s]) T₁ T' :=
 ⟨D.W.off (.one c h') (c.otherK D.W.hb.rdy h' (by decide)),⟨c.otherK D.C.ce h' (by decide),fun x hx=>c.otherK (D.C.row x hx) h' (by decide),fun x hx=>c.other (D.C.spec x hx) fun q=>nc (q▸List.mem_map_of_mem hx),D.C.ok,D.C.rn,D.C.pn,D.C.len⟩,D.g1,D.g2,by rw [List.map_append];exact h',fun x hx=>(List.mem_append.mp hx).elim (D.ok x) fun hx=>List.mem_singleton.mp hx▸hs,by rw [List.length_append,D.n];rfl,c.back D.c fun _ _ _ _ q=>.inr q⟩
theorem FI.fresh {T':TH} {f₂:WN} {hf₂:Hn} {ts₂:List Th} (D:FI i f h cells pid j b f' hf' ts ts' specs T₁ T) (W:HW i f₂ h hf₂ ts₂ T') (m1:NGrow f' f₂ 2) (m2:Grow ts' ts₂) (c:Chg freshX T T'):FI i f h cells pid j (b+2) f₂ hf₂ ts ts₂ specs T₁ T' :=
 ⟨W,D.C.fresh m2 c,D.g1.trans m1,D.g2.trans m2,c.get D.p (nk (by decide)),fun s hs=>m2.ok s (D.ok s hs),D.n,c.back D.c fun _ _ _ _ q=>.inl q⟩
theorem FI.up (D:FI i f h cells pid j b f' hf' ts ts' specs T₁ T) {b':Nat} (hb:b≤b'):FI i f h cells pid j b' f' hf' ts ts' specs T₁ T:=⟨D.W,D.C,D.g1.mono hb,D.g2,D.p,D.ok,D.n,D.c⟩
theorem ok_fresh {form m:Nat} (h4:form<4) (hm:0<m) (ht:∃ t∈ts,t.ser=m∧t.specs.length=2):(⟨form,m,z%2⟩:Spec).Ok ts :=
 have h2:z%2<2:=Nat.mod_lt _ (Nat.zero_lt_succ 1)
 ⟨Nat.le_of_lt (Nat.lt_of_lt_of_le h4 (Nat.le_of_ble_eq_true rfl)),Nat.le_of_lt h2,fun _=>⟨h4,ht.elim fun t ht=>⟨t,ht.1,ht.2.1,fun _=>ht.2.2.symm▸h2⟩⟩,fun _=>hm⟩
theorem ok_plain {form:Nat} (h4:¬ form<4) (h6:form≤6):(⟨form,0,z%2⟩:Spec).Ok ts :=
 ⟨Nat.le_succ_of_le h6,Nat.le_of_lt (Nat.mod_lt _ (Nat.zero_lt_succ 1)),fun q=>absurd q (Nat.lt_irrefl 0),fun q=>absurd ((show form=1 from q)▸Nat.le_of_ble_eq_true rfl) h4⟩
set_option maxHeartbeats 1000000 in
theorem sp_fill {Q:V→TH→Prop} (W:HW i f h hf ts T) (C:CL i ts cells T) (hb:f.made≤9000) (hcl:cells.length≤50000) (hr:T[rid]?=some (.real,.list []))
  (hrn:rid∉cells.map Ce.rid) (hrd:rid≠h.rdy) (hfs:∀ x∈fs,x≤6) (hfl:0<fs.length∧fs.length≤10)
  (k:∀ f' hf' ts' specs pid T',HW i f' h hf' ts' T'→CL i ts' (cells++[⟨tag,specs,rid,pid⟩]) T'→NGrow f f' 4→Grow ts ts'→specs.length≤2→Chg (fillX rid i.ce) T T'→Q .none T'):CallY (CN (n+5)) 74 [.obj i.w,.str tag,.obj rid,.int z,.tup (fs.map fun x:Nat=>.int (x:Int))] T Q:=by
 refine call_fn (fd:=fd_law_fill) (by rfl) (by rfl) ?_
 refine (?_:SV _ [some (.obj i.w),some (.str tag),some (.obj rid),some (.int z),some (.tup (fs.map fun x:Nat=>.int (x:Int))),none,none,none,none] _ _ _)
 k_ownIn
 refine AnyK.mk .cspec (NewY.intro fun pid T₁ hn₁ h₁ c₁=>?_)
 have nc:=(C.free hn₁).2
 k_ownIn
 refine IdxY.four fun c hc=>?_
 refine RangeY.gh (G:=(WN×Hn×List Th×List Spec)×Option V×Option V×Option V) (fun g=>[some (.obj i.w),some (.str tag),some (.obj rid),some (.int z),some (.tup (fs.map fun x:Nat=>.int (x:Int))),some (.obj pid),g.2.1,g.2.2.1,g.2.2.2]) (fun j g T'=>FI i f h cells pid j (2*j) g.1.1 g.1.2.1 ts g.1.2.2.1 g.1.2.2.2 T₁ T')
  (Nat.le_trans hc (Nat.le_of_ble_eq_true rfl)) ((f,hf,ts,[]),none,none,none) ⟨W.chg0 c₁,C.chg0 c₁,.refl _ _,.refl _,h₁,fun _ q=>(nomatch q),rfl,.refl _ _⟩ ?_ ?_
 ·intro Q' j g_;refine pp43 g_ fun f' hf' ts' specs x y u=>?_;rintro T' hj D q _
  have hjc:j≤2:=Nat.le_trans (Nat.le_of_lt hj) hc
  have hsl:specs.length≤2:=D.n▸hjc
  have hp:=D.p
  k_ownIn
  refine LenY.tup (Nat.le_trans (Nat.le_of_eq (List.length_map _)) (Nat.le_trans hfl.2 (Nat.le_of_ble_eq_true rfl))) ?_
  rw [List.length_map]
  refine BinY.modN hfl.1 ?_
  have hlt:(z/4+j)%fs.length<fs.length:=Nat.mod_lt _ hfl.1
  have hform:=List.getElem?_eq_getElem hlt
  have hform6:=hfs _ (List.mem_of_getElem? hform)
  refine IdxY.tupN (v:=.int (fs[(z/4+j)%fs.length]:Nat)) (by rw [List.getElem?_map,hform];rfl) (Nat.lt_trans hlt (Nat.lt_of_le_of_lt hfl.2 (Nat.le_of_ble_eq_true rfl))) ?_
  generalize fs[(z/4+j)%fs.length]=form at hform6
  clear hform hlt
  k_ownIn
  refine⟨fun hb'=>?_,fun hb'=>?_⟩
  ·have hf4:form<4:=Int.ofNat_lt.mp (of_decide_eq_true hb')
   k_ownIn
   refine sp_fresh D.W (Nat.le_trans D.g1.made (Nat.le_trans (Nat.add_le_add hb (Nat.mul_le_mul_left 2 hjc)) (Nat.le_of_ble_eq_true rfl))) fun f₂ hf₂ ts₂ T₂ W₂ m1 m2 m3 ht c₂=>?_
   have D₂:=D.fresh W₂ m1 m2 c₂
   have hp₂:=D₂.p
   k_ownIn
   refine⟨lmL hsl,PutY.intro fun T₃ h₃ c₃=>?_⟩
   k_ownIn
   exact q ((f₂,hf₂,ts₂,specs++[⟨form,f₂.made,(z+j)%2⟩]),_,_,_) T₃ (D₂.snoc (s:=⟨form,f₂.made,(z+j)%2⟩) nc (ok_fresh hf4 m3 ht) h₃ c₃)
  ·have hf4:¬ form<4:=fun h=>of_decide_eq_false hb' (Int.ofNat_lt.mpr h)
   k_ownIn
   refine⟨lmL hsl,PutY.intro fun T₃ h₃ c₃=>?_⟩
   k_ownIn
   exact q ((f',hf',ts',specs++[⟨form,0,(z+j)%2⟩]),_,_,_) T₃ ((D.snoc (s:=⟨form,0,(z+j)%2⟩) nc (ok_plain hf4 hform6) h₃ c₃).up (Nat.le_add_right _ 2))
 ·intro g_;refine pp43 g_ fun f' hf' ts' specs x y u=>?_;rintro T' D
  have hsl:specs.length≤2:=Nat.le_trans (Nat.le_of_eq D.n) hc
  have hr':T'[rid]?=some (.real,.list []):=D.c.get (c₁.keep hr) fun q=>q.elim (nk (i:=rid) (by decide)) fun q=>some_ne ((q▸hr).symm.trans hn₁)
  k_ownIn
  refine sp_lput D.W D.C hcl hr' D.p D.ok (Nat.le_trans hsl (Nat.le_of_ble_eq_true rfl)) hrn nc hrd fun T₂ W₂ C₂ c₂=>?_
  k_ownIn
  exact k f' hf' ts' specs pid T₂ W₂ C₂ (D.g1.mono (Nat.mul_le_mul_left 2 hc)) D.g2 hsl (c₂.back (D.c.back (c₁.weaken fun _ _ q=>q.elim) fun j k' o hi q=>q.elim .inl fun q=>some_ne ((q▸hi).symm.trans hn₁)) fun _ _ _ _ q=>.inr q)
end
set_option genInjectivity false
structure Fr where
 id:Nat
 number:Nat
 home:Nat
 args:Nat
 locals_:Nat
 stack:Nat
 keep:Nat
 caughtv:Nat
 xs:V×V×V×V×V×V×V×V
noncomputable def Fr.obj (f:Fr):O:=.inst 6 [.int f.number,f.xs.1,f.xs.2.1,f.xs.2.2.1,.obj f.args,.obj f.locals_,.obj f.stack,f.xs.2.2.2.1,f.xs.2.2.2.2.1,.obj f.caughtv,.obj f.keep,f.xs.2.2.2.2.2.1,.int f.home,f.xs.2.2.2.2.2.2.1,f.xs.2.2.2.2.2.2.2]
noncomputable def Fr.rows (f:Fr):List Nat:=(if f.home=f.number then [f.args,f.locals_] else [])++[f.stack,f.keep,f.caughtv]
structure Chs where
 id:Nat
 rid:Nat
 num:V
 xs:List V
noncomputable def Chs.obj (c:Chs):O:=.inst 11 (c.num::.obj c.rid::c.xs)
structure MId where
 kt:Nat
 frs:Nat
 sts:Nat
 fas:Nat
 chs:Nat
 inn:Nat
 iv:Nat
 hes:Nat
 un:Nat
 sw:Nat
 x0:V
 xa:V×V×V×V×V×V
 xb:V
 xc:V
 xd:V×V×V×V×V×V×V
 xe:V×V
 xf:V×V×V
noncomputable def MId.obj (i:MId) (hp:Nat) (hd:V):O:=.inst 10 [i.x0,.obj i.kt,.obj hp,i.xa.1,i.xa.2.1,i.xa.2.2.1,i.xa.2.2.2.1,i.xa.2.2.2.2.1,i.xa.2.2.2.2.2,.obj i.frs,i.xb,.obj i.sts,i.xc,.obj i.fas,i.xd.1,i.xd.2.1,i.xd.2.2.1,i.xd.2.2.2.1,i.xd.2.2.2.2.1,i.xd.2.2.2.2.2.1,i.xd.2.2.2.2.2.2,
 .obj i.chs,.obj i.inn,.obj i.iv,.obj i.hes,i.xe.1,i.xe.2,.obj i.un,hd,i.xf.1,i.xf.2.1,i.xf.2.2,.obj i.sw]
structure MG where
 frames:List Fr
 chases:List Chs
 statics:List (Int×Nat)
 fails:List (Int×Nat)
 held:List Nat
noncomputable def diOf (l:List (Int×Nat)):List (Int×V):=l.map fun p=>(p.1,.obj p.2)
structure MW (m:Nat) (i:MId) (hp:Nat) (hd:V) (g:MG) (T:TH):Prop where
 m:T[m]?=some (.m,i.obj hp hd)
 frs:T[i.frs]?=some (.frs,.list (g.frames.map fun f=>.obj f.id))
 fr:∀ f∈g.frames,T[f.id]?=some (.fr,f.obj)
 chs:T[i.chs]?=some (.chs,.list (g.chases.map fun c=>.obj c.id))
 ch:∀ c∈g.chases,T[c.id]?=some (.ch,c.obj)
 sts:T[i.sts]?=some (.sts,.di (diOf g.statics))
 fas:T[i.fas]?=some (.fas,.di (diOf g.fails))
 hes:T[i.hes]?=some (.hes,.list (g.held.map .obj))
 fk:g.fails.Pairwise fun a b=>a.1<b.1
 len:g.frames.length≤1000∧g.chases.length≤1000∧g.fails.length≤1000∧g.held.length≤1000
theorem MW.chg {m:Nat} {i:MId} {hp:Nat} {hd:V} {g:MG} {T T':TH} {X:Nat→K→Prop} (M:MW m i hp hd g T) (c:Chg X T T') (n:∀ i,¬ X i .m∧¬ X i .frs∧¬ X i .fr∧¬ X i .chs∧¬ X i .ch∧¬ X i .sts∧¬ X i .fas∧¬ X i .hes):MW m i hp hd g T' :=
 ⟨c.get M.m (n _).1,c.get M.frs (n _).2.1,fun f hf=>c.get (M.fr f hf) (n _).2.2.1,c.get M.chs (n _).2.2.2.1,fun x hx=>c.get (M.ch x hx) (n _).2.2.2.2.1,c.get M.sts (n _).2.2.2.2.2.1,c.get M.fas (n _).2.2.2.2.2.2.1,c.get M.hes (n _).2.2.2.2.2.2.2,M.fk,M.len⟩
theorem MW.chg0 {m:Nat} {i:MId} {hp:Nat} {hd:V} {g:MG} {T T':TH} (M:MW m i hp hd g T) (c:Chg noX T T'):MW m i hp hd g T':=M.chg c fun _=>⟨id,id,id,id,id,id,id,id⟩
noncomputable def rootsL (i:MId) (g:MG) (a b:Nat):List Nat:=g.frames.flatMap Fr.rows++[a,b]++g.chases.map Chs.rid++[i.iv]++g.held++g.fails.map (·.2)++[i.un]
theorem dget_diOf:∀ {l:List (Int×Nat)} {j:Nat} {p:Int×Nat},l.Pairwise (fun a b=>a.1<b.1)→l[j]?=some p→dget (diOf l) p.1=some (.obj p.2)
 | q::l,0,p,_,h=>by simp at h;subst h;simp [diOf,dget]
 | q::l,j+1,p,hp,h=>by
  rw [List.pairwise_cons] at hp
  have h:l[j]?=some p:=by simpa using h
  have:=hp.1 p (List.mem_of_getElem? h)
  show dget ((q.1,V.obj q.2)::diOf l) p.1=_
  unfold dget
  rw [if_neg (by simp;lia)]
  exact dget_diOf hp.2 h
theorem sort_two:([17,16]:List Int).mergeSort (fun a b=>decide (a≤b))=[16,17]:=by simp [List.mergeSort,List.MergeSort.Internal.splitInTwo]
theorem sort_asc {l:List Int} (h:l.Pairwise (·≤·)):l.mergeSort (fun a b=>decide (a≤b))=l:=by
 refine List.mergeSort_of_pairwise ?_
 exact h.imp fun h=>by simpa using h
theorem dget_mem {l:List (Int×Nat)} {p:Int×Nat} (hp:l.Pairwise (fun a b=>a.1<b.1)) (h:p∈l):dget (diOf l) p.1=some (.obj p.2):=(List.getElem?_of_mem h).elim fun _ h=>dget_diOf hp h
theorem rows5 (f:Fr):f.rows.length≤5:=by
 unfold Fr.rows
 by_cases e:f.home=f.number
 ·rw [if_pos e];exact Nat.le_refl 5
 ·rw [if_neg e];exact Nat.le_of_ble_eq_true rfl
noncomputable def rootsB:List S:=match fd_roots.body.drop 1 with
 | .forI _ _ b::_=>b
 | _=>[]
theorem row_y {f:Fr} {l:List Nat} (e:f.home=f.number):(l++f.rows).map V.obj=((((l.map V.obj++[.obj f.args])++[.obj f.locals_])++[.obj f.stack])++[.obj f.keep])++[.obj f.caughtv]:=by
 unfold Fr.rows
 rw [if_pos e,List.map_append,List.append_assoc,List.append_assoc,List.append_assoc,List.append_assoc];rfl
theorem row_n {f:Fr} {l:List Nat} (e:¬ f.home=f.number):(l++f.rows).map V.obj=((l.map V.obj++[.obj f.stack])++[.obj f.keep])++[.obj f.caughtv]:=by
 unfold Fr.rows
 rw [if_neg e,List.map_append,List.append_assoc,List.append_assoc];rfl
theorem map1 {l:List Nat} {r:Nat}:(l++[r]).map V.obj=l.map V.obj++[.obj r]:=List.map_append
theorem roots_fr {n m o:Nat} {i:MId} {hp:Nat} {hd:V} {f:Fr} {rows:List Nat} {T:TH} {Q:PS'} {y z u:Option V} (mm:T[m]?=some (.m,i.obj hp hd)) (hf:T[f.id]?=some (.fr,f.obj)) (hO:T[o]?=some (.tmp 540,.list (rows.map .obj))) (hl:rows.length≤9000)
  (k:∀ T',T'[o]?=some (.tmp 540,.list ((rows++f.rows).map .obj))→Chg (oneX o) T T'→Q (none,[some (.obj m),some (.obj o),some (.obj f.id),y,z,u]) T') :
  SV (CN n) [some (.obj m),some (.obj o),some (.obj f.id),y,z,u] rootsB T Q:=by
 unfold rootsB fd_roots
 dsimp only [List.drop]
 have l0:=mpL (f:=V.obj) hl
 by_cases e:f.home=f.number
 ·k_ownIn
  refine⟨limL' l0,?_⟩
  k_put
  k_ownIn
  refine⟨limL' (apL l0),?_⟩
  k_put
  k_ownIn
  refine⟨limL' (apL (apL l0)),?_⟩
  k_put
  k_ownIn
  refine⟨limL' (apL (apL (apL l0))),?_⟩
  k_put
  k_ownIn
  refine⟨limL' (apL (apL (apL (apL l0)))),PutY.tr ‹_› fun T' h c=>?_⟩
  k_ownIn
  exact k T' (row_y e▸h) c
 ·k_ownIn
  refine⟨limL' l0,?_⟩
  k_put
  k_ownIn
  refine⟨limL' (apL l0),?_⟩
  k_put
  k_ownIn
  refine⟨limL' (apL (apL l0)),PutY.tr ‹_› fun T' h c=>?_⟩
  k_ownIn
  exact k T' (row_n e▸h) c
theorem sort_two' {so:Nat} {k:K} {T:TH} {a b:Nat} (h:T[so]?=some (k,.list (((diOf [(17,b),(16,a)]).map (·.1)).mergeSort (fun a b=>decide (a≤b)) |>.map V.int))):T[so]?=some (k,.list [.int 16,.int 17]):=by
 have e:(diOf [(17,b),(16,a)]).map (·.1)=[17,16]:=rfl
 rw [e,sort_two] at h;exact h
theorem roots_len {i:MId} {g:MG} {a b:Nat}:rootsL i g a b=(((((g.frames.flatMap Fr.rows++[a])++[b])++g.chases.flatMap fun c=>[c.rid])++[i.iv])++g.held.flatMap fun r=>[r])++(g.fails.flatMap fun p=>[p.2])++[i.un]:=by
 unfold rootsL
 rw [←List.map_eq_flatMap,←List.map_eq_flatMap,←List.map_eq_flatMap,List.map_id',List.append_assoc _ [a] [b]];rfl
theorem le_app {l l':List Nat} {a b:Nat} (h:l.length≤a) (h':l'.length≤b):(l++l').length≤a+b:=by rw [List.length_append];exact Nat.add_le_add h h'
theorem flatN_le {α:Type} {l:List α} {f:α→List Nat} {n:Nat} (h:∀ a,(f a).length≤n) (b:Nat) (hl:l.length≤b):(l.flatMap f).length≤n*b:=by
 refine Nat.le_trans ?_ (Nat.mul_le_mul_left n hl)
 clear hl
 induction l with
 | nil=>exact Nat.zero_le _
 | cons a l ih=>rw [List.flatMap_cons,List.length_append,List.length_cons,Nat.mul_succ,Nat.add_comm];exact Nat.add_le_add ih (h a)
theorem MW.A {m:Nat} {i:MId} {hp:Nat} {hd:V} {g:MG} {T T':TH} (M:MW m i hp hd g T) (c:Chg noX T T'):AllK [(m,.m,i.obj hp hd),(i.frs,.frs,.list (g.frames.map fun f=>.obj f.id)),(i.chs,.chs,.list (g.chases.map fun c=>.obj c.id)),(i.sts,.sts,.di (diOf g.statics)),(i.fas,.fas,.di (diOf g.fails)),(i.hes,.hes,.list (g.held.map .obj))] T' :=
 .cons (c.keep M.m) (.cons (c.keep M.frs) (.cons (c.keep M.chs) (.cons (c.keep M.sts) (.cons (c.keep M.fas) (.cons (c.keep M.hes) .nil)))))
section
variable {n m o a b:Nat} {i:MId} {hp:Nat} {hd:V} {g:MG} {T₀ T:TH} {x y z u:Option V} {acc:List Nat}
set_option maxHeartbeats 1000000 in
theorem roots_fails {Q:PS'} (M:MW m i hp hd g T₀) (hn:T₀[o]?=none) (c:Chg noX T₀ T) (hO:T[o]?=some (.tmp 540,.list (acc.map .obj))) (ha:acc.length≤9000)
  (k:∀ ρ T',Chg noX T₀ T'→T'[o]?=some (.tmp 540,.list (((acc++g.fails.flatMap fun p=>[p.2])++[i.un]).map .obj))→Q (some (.obj o),ρ) T') :
  SV (CN n) [some (.obj m),some (.obj o),x,y,z,u] (fd_roots.body.drop 6) T Q:=by
 have A:=M.A c
 have mm:=A.g 0
 have hl:=M.len.2.2.1
 have hks:(g.fails.map (·.1)).Pairwise (·≤·):=by
  rw [List.pairwise_map];exact M.fk.imp fun h=>Int.le_of_lt h
 have hfa:=A.g 4
 k_ownIn
 have e1:(diOf g.fails).map (·.1)=g.fails.map (·.1):=by unfold diOf;rw [List.map_map];rfl
 refine⟨⟨lmLe hl,.inr (e1▸hks)⟩,AnyK.mk (.tmp 542) (NewY.intro fun so T₁ hn₁ h₁ c₁=>?_)⟩
 have h₁:T₁[so]?=some (.tmp 542,.list (g.fails.map fun p=>.int p.1)):=by rw [h₁,e1,sort_asc hks,List.map_map];rfl
 have c:=c.tr c₁
 refine ForY.app (fun y=>[some (.obj m),some (.obj o),x,y,z,u]) (fun p=>[p.2]) 1 (9000+1*1000) h₁ (c₁.keep hO) (by decide) (fun _=>Nat.le_refl 1) (Nat.add_le_add ha (Nat.mul_le_mul_left 1 hl)) y ?_ ?_
 ·intro Q' p rows y T₂ hp' hr hO₂ c₂ q
  have c:=c₂.fresh c hn
  have mm:=c.keep M.m
  have mf:=c.keep M.fas
  k_ownIn
  refine IdxY.di mf (dget_mem M.fk hp') ?_
  k_ownIn
  refine⟨lmL hr,PutY.tr c₂ fun T₃ h₃ c₃=>?_⟩
  k_ownIn
  exact q _ T₃ (map1▸h₃) c₃
 ·intro y T₂ hO₂ c₂
  have c:=c₂.fresh c hn
  have mm:=c.keep M.m
  k_ownIn
  refine⟨lmL (le_app ha (flatN_le (f:=fun p:Int×Nat=>[p.2]) (n:=1) (fun _=>Nat.le_refl 1) 1000 hl)),PutY.intro fun T₃ h₃ c₃=>?_⟩
  k_ownIn
  exact k _ T₃ (c₃.fresh c hn) (map1▸h₃)
set_option maxHeartbeats 1000000 in
theorem roots_chs {Q:PS'} (M:MW m i hp hd g T₀) (hn:T₀[o]?=none) (c:Chg noX T₀ T) (hO:T[o]?=some (.tmp 540,.list (acc.map .obj))) (ha:acc.length≤5002)
  (k:∀ ρ T',Chg noX T₀ T'→T'[o]?=some (.tmp 540,.list (((((acc++g.chases.flatMap fun c=>[c.rid])++[i.iv])++g.held.flatMap fun r=>[r])++(g.fails.flatMap fun p=>[p.2])++[i.un]).map .obj))→Q (some (.obj o),ρ) T') :
  SV (CN n) [some (.obj m),some (.obj o),x,y,none,none] (fd_roots.body.drop 3) T Q:=by
 have A:=M.A c
 have mm:=A.g 0
 have mc:=A.g 2
 have hl:=M.len.2.1
 have hl2:=M.len.2.2.2
 k_ownIn
 refine ForY.app (fun z=>[some (.obj m),some (.obj o),x,y,z,none]) (fun c=>[c.rid]) 1 (5002+1*1000) mc hO (by decide) (fun _=>Nat.le_refl 1) (Nat.add_le_add ha (Nat.mul_le_mul_left 1 hl)) none ?_ ?_
 ·intro Q' p rows z T₂ hp' hr hO₂ c₂ q
  have hco:=(c₂.fresh c hn).keep (M.ch p hp')
  k_ownIn
  refine⟨lmL hr,PutY.tr c₂ fun T₃ h₃ c₃=>?_⟩
  k_ownIn
  exact q _ T₃ (map1▸h₃) c₃
 ·intro z T₂ hO₂ c₂
  have c:=c₂.fresh c hn
  have mm:=c.keep M.m
  have ha:=le_app ha (flatN_le (f:=fun c:Chs=>[c.rid]) (n:=1) (fun _=>Nat.le_refl 1) 1000 hl)
  k_ownIn
  refine⟨lmL ha,PutY.intro fun T₃ h₃ c₃=>?_⟩
  have c:=c₃.fresh c hn
  have mm:=c.keep M.m
  have mh:=c.keep M.hes
  have ha:=apL (a:=i.iv) ha
  k_ownIn
  refine ForY.app (fun u=>[some (.obj m),some (.obj o),x,y,z,u]) (fun r=>[r]) 1 (6003+1*1000) mh (map1▸h₃) (by decide) (fun _=>Nat.le_refl 1) (Nat.add_le_add ha (Nat.mul_le_mul_left 1 hl2)) none ?_ ?_
  ·intro Q' p rows u T₄ hp' hr hO₄ c₄ q
   k_ownIn
   refine⟨lmL hr,PutY.tr c₄ fun T₅ h₅ c₅=>?_⟩
   k_ownIn
   exact q _ T₅ (map1▸h₅) c₅
  ·intro u T₄ h₄ c₄
   exact roots_fails M hn (c₄.fresh c hn) h₄ (Nat.le_trans (le_app ha (flatN_le (f:=fun r:Nat=>[r]) (n:=1) (fun _=>Nat.le_refl 1) 1000 hl2)) (Nat.le_of_ble_eq_true rfl)) k
set_option maxHeartbeats 1000000 in
theorem sp_roots {Q:V→TH→Prop} (M:MW m i hp hd g T) (hst:g.statics=[(17,b),(16,a)])
  (k:∀ o T',T[o]?=none→T'[o]?=some (.tmp 540,.list ((rootsL i g a b).map .obj))→Chg noX T T'→Q (.obj o) T'):CallY (CN (n+1)) 54 [.obj m] T Q:=by
 refine call_fn (fd:=fd_roots) (by rfl) (by rfl) ?_
 refine (?_:SV _ [some (.obj m),none,none,none,none,none] _ _ _)
 k_ownIn
 refine AnyK.mk (.tmp 540) (NewY.intro fun o T₁ hn h₁ c=>?_)
 have mm:=c.keep M.m
 have mf:=c.keep M.frs
 k_ownIn
 refine ForY.app (acc:=[]) (fun x=>[some (.obj m),some (.obj o),x,none,none,none]) Fr.rows 5 (0+5*1000) mf h₁ (by decide) rows5 (Nat.add_le_add (Nat.le_refl 0) (Nat.mul_le_mul_left 5 M.len.1)) none ?_ ?_
 ·intro Q' f rows x T₂ hf hr hO₂ c₂ q
  have c:=c₂.fresh c hn
  refine roots_fr (c.keep M.m) (c.keep (M.fr f hf)) hO₂ (Nat.le_trans hr (Nat.le_of_ble_eq_true rfl)) fun T₃ h₃ c₃=>q _ T₃ h₃ (c₂.tr c₃)
 ·intro x T₂ hO₂ c₂
  have c:=c₂.fresh c hn
  have mm:=c.keep M.m
  have ms:=c.keep M.sts
  rw [hst] at ms
  k_ownIn
  refine⟨⟨Nat.le_of_ble_eq_true rfl,.inl (Nat.le_of_ble_eq_true rfl)⟩,AnyK.mk (.tmp 541) (NewY.intro fun so T₃ hn₃ h₃ c₃=>?_)⟩
  have hs:=sort_two' h₃
  have hO:=c₃.keep hO₂
  have c:=c.tr c₃
  have mm:=c.keep M.m
  have ms:=c₃.keep ms
  have ha:=flatN_le rows5 1000 M.len.1
  clear h₁ h₃ c₃ hO₂ c₂
  refine ForY.unroll 9 (FV.step hs rfl ?_)
  k_ownIn
  refine IdxY.di ms (v:=.obj a) rfl ?_
  k_ownIn
  refine⟨lmL ha,PutY.intro fun T₄ h₄ c₄=>?_⟩
  have mm:=c₄.otherK mm h₄ (by decide)
  have ms:=c₄.otherK ms h₄ (by decide)
  refine FV.step (c₄.otherK hs h₄ (by decide)) rfl ?_
  k_ownIn
  refine IdxY.di ms (v:=.obj b) rfl ?_
  k_ownIn
  refine⟨limL' (apL (mpL ha)),PutY.tr c₄ fun T₅ h₅ c₅=>?_⟩
  refine FV.done (c₅.otherK hs h₅ (by decide)) rfl ?_
  refine roots_chs M hn (c₅.fresh c hn) (acc:=(g.frames.flatMap Fr.rows++[a])++[b]) (by rw [map1,map1];exact h₅) (apL (apL ha)) fun ρ T' c h=>?_
  exact k o T' hn (by rw [roots_len];exact h) c
end
set_option genInjectivity false
noncomputable def specsOf (cells:List Ce) (r:Nat):List Spec:=((cells.find? fun c=>c.rid==r).map Ce.specs).getD []
theorem specsOf_cell {cells:List Ce} (hn:(cells.map Ce.rid).Nodup) {c:Ce} (hc:c∈cells):specsOf cells c.rid=c.specs:=by
 unfold specsOf
 cases q:cells.find? fun x=>x.rid==c.rid with
 | none=>have:=List.find?_eq_none.mp q c hc;simp at this
 | some d =>
  have h1:=List.mem_of_find?_eq_some q
  have h2:d.rid=c.rid:=by simpa using List.find?_some q
  obtain⟨i,hi⟩:=List.getElem?_of_mem h1
  obtain⟨j,hj⟩:=List.getElem?_of_mem hc
  by_cases e:i=j
  ·subst e;rw [hi] at hj;cases hj;rfl
  ·exact absurd h2 (map_get_ne hn hi hj e)
theorem specsOf_none {cells:List Ce} {r:Nat} (h:r∉cells.map Ce.rid):specsOf cells r=[]:=by
 unfold specsOf
 rw [List.find?_eq_none.mpr fun c hc=>by
  intro q
  have q:c.rid=r:=by simpa using q
  exact h (q▸List.mem_map_of_mem hc)]
 rfl
structure Rts (mi:MId) (g:MG) (a b:Nat) (h:Hid) (cells:List Ce) (ex:List Nat) (T:TH):Prop where
 perm:(rootsL mi g a b).Perm (cells.map Ce.rid++ex)
 exs:∀ r∈ex,T[r]?=some (.real,.list [])
 nd:(cells.map Ce.rid++ex).Nodup
 rdy:h.rdy∉cells.map Ce.rid++ex
 st:g.statics=[(17,b),(16,a)]
 cl:cells.length≤5000
 exl:ex.length≤1
theorem reach_congr {ts:List Th} {r1 r2:List (List Spec)} (h:∀ l∈r1,∀ s∈l,∃ l'∈r2,s∈l') {t:Th} (x:Reach ts r1 t):Reach ts r2 t:=by
 induction x with
 | root hr hs e=>obtain⟨l',h1,h2⟩:=h _ hr _ hs;exact .root h1 h2 e
 | step _ hs e ih=>exact .step ih hs e
noncomputable def rowsR (mi:MId) (g:MG) (a b:Nat) (cells:List Ce):List (Nat×List Spec):=(rootsL mi g a b).map fun r=>(r,specsOf cells r)
theorem Rts.cases {mi:MId} {g:MG} {a b:Nat} {h:Hid} {cells:List Ce} {ex:List Nat} {T:TH} (R:Rts mi g a b h cells ex T) {r:Nat×List Spec} (hr:r∈rowsR mi g a b cells):(∃ c∈cells,r=(c.rid,c.specs))∨(r.1∈ex∧r.2=[]):=by
 obtain⟨x,hx,rfl⟩:=List.mem_map.mp hr
 have hn:(cells.map Ce.rid).Nodup:=(List.nodup_append.mp R.nd).1
 rcases List.mem_append.mp (R.perm.mem_iff.mp hx) with q|q
 ·obtain⟨c,hc,rfl⟩:=List.mem_map.mp q
  exact .inl ⟨c,hc,by rw [specsOf_cell hn hc]⟩
 ·exact .inr ⟨q,specsOf_none fun h'=>(List.nodup_append.mp R.nd).2.2 _ h' _ q rfl⟩
theorem Rts.cell {mi:MId} {g:MG} {a b:Nat} {h:Hid} {cells:List Ce} {ex:List Nat} {T:TH} (R:Rts mi g a b h cells ex T) {c:Ce} (hc:c∈cells):(c.rid,c.specs)∈rowsR mi g a b cells:=by
 have hn:(cells.map Ce.rid).Nodup:=(List.nodup_append.mp R.nd).1
 refine List.mem_map.mpr ⟨c.rid,R.perm.mem_iff.mpr (List.mem_append_left _ (List.mem_map_of_mem hc)),by rw [specsOf_cell hn hc]⟩
theorem sp_Handles {n hd:Nat} {T:TH} {Q:V→TH→Prop} (h0:T[hd]?=some (.hd,.inst 4 [])) (k:∀ hr T',Hds hd hr T'→Chg (oneX hd) T T'→Q .none T'):CallY (CN (n+1)) 33 [.obj hd] T Q:=by
 refine call_fn (fd:=fd_Handles_init) (by rfl) (by rfl) ?_
 show SV _ [some (.obj hd)] _ _ _
 k_ownIn
 refine AnyK.mk .hr ?_
 refine NewY.intro ?_
 intro hr T₁ hn₁ h₁ c₁
 k_ownIn
 rename_i T₂ h₂ c₂
 exact k hr T₂ ⟨h₂,c₂.otherK h₁ h₂ (by decide)⟩ (c₂.back (c₁.weaken fun _ _ q=>q.elim) fun _ _ _ _ q=>q)
noncomputable abbrev collX:Nat→K→Prop:=ksX [.hp,.th,.real,.slots,.m]
set_option maxHeartbeats 2000000 in
theorem sp_collfor {n:Nat} {i:WId} {mi:MId} {h:Hid} {hd:V} {g:MG} {a b:Nat} {os rs sn:List Th} {f:Hn} {gen:Nat} {cells:List Ce} {ex:List Nat} {T:TH} {Q:V→TH→Prop} (hb:HB h (os++rs) f T) (S:SL (os++rs) T) (G:Good (os++rs)) (ho:∀ t∈os,gen<t.age) (hr:∀ t∈rs,t.age≤gen) (hlim:(os++rs).length≤20000)
  (M:MW i.m mi h.hp hd g T) (H:hd=.none∨∃ hdo hr,hd=.obj hdo∧Hds hdo hr T) (R:Rts mi g a b h cells ex T) (hrow:∀ c∈cells,T[c.rid]?=some (.real,.list (c.specs.map (Spec.val (whOf (os++rs)))))) (hok:∀ c∈cells,∀ s∈c.specs,s.Ok (os++rs)) (hlen:∀ c∈cells,c.specs.length≤10)
  (hsn:∀ t∈os++rs,t.age≤gen→(t∈sn ↔ Reach (os++rs) (cells.map Ce.specs) t))
  (k:∀ h' f' hdo hr' T',h'.hp=h.hp→h'.rdy=h.rdy→f'.made=f.made→Keeps gen sn os rs→HB h' (nextL gen sn os rs) f' T'→SL (nextL gen sn os rs) T'→(∀ c∈cells,T'[c.rid]?=some (.real,.list (c.specs.map (Spec.val (whOf (nextL gen sn os rs))))))→(∀ c∈cells,∀ s∈c.specs,s.Ok (nextL gen sn os rs)) →
   MW i.m mi h.hp (.obj hdo) g T'→Hds hdo hr' T'→(∀ r∈ex,T'[r]?=some (.real,.list []))→Chg collX T T'→Q (.int (((os++rs).length:Int)-((nextL gen sn os rs).length:Int))) T') :
  CallY (CN (n+10)) 55 [.obj i.m,.int gen] T Q:=by
 have hrl:(rootsL mi g a b).length≤6000:=by
  rw [R.perm.length_eq,List.length_append,List.length_map];have:=R.cl;have:=R.exl;lia
 have main:∀ T₁ hdo hr',Chg (ksX [.m]) T T₁→MW i.m mi h.hp (.obj hdo) g T₁→Hds hdo hr' T₁→SV (CN (n+9)) [some (.obj i.m),some (.int gen)] [.ret (.call 53 [(.attr (.loc 0) 10 2),(.call 54 [(.loc 0)]),(.attr (.loc 0) 10 28),(.loc 1)])] T₁ fun r T=>Q (r.1.getD .none) T:=by
  intro T₁ hdo hr' c₁ M₁ H₁
  have mm:=M₁.m
  k_ownIn
  refine sp_roots M₁ R.st fun o T₂ hn₂ h₂ c₂=>?_
  have mm₂:=c₂.keep mm
  k_ownIn
  have c₁₂:Chg (ksX [.m]) T T₂:=c₂.back c₁ side_no
  have hb₂:HB h (os++rs) f T₂:=hb.keep c₁₂ (fun _=>⟨nk (by decide),nk (by decide),nk (by decide),nk (by decide),nk (by decide),nk (by decide)⟩) (nk (by decide))
  have S₂:SL (os++rs) T₂:=fun t ht=>c₁₂.get (S t ht) (nk (by decide))
  have H₂:=H₁.chg c₂ fun _=>⟨id,id⟩
  have RA:RowsAt (os++rs) (rowsR mi g a b cells) T₂:=by
   refine⟨fun r hr=>?_,fun r hr s hs=>?_⟩
   ·rcases R.cases hr with ⟨c,hc,rfl⟩|⟨q1,q2⟩
    ·exact c₁₂.get (hrow c hc) (nk (by decide))
    ·rw [q2];exact c₁₂.get (R.exs _ q1) (nk (by decide))
   ·rcases R.cases hr with ⟨c,hc,rfl⟩|⟨q1,q2⟩
    ·exact hok c hc s hs
    ·rw [q2] at hs;cases hs
  have e1:(rowsR mi g a b cells).map (·.1)=rootsL mi g a b:=by unfold rowsR;rw [List.map_map];exact List.map_id _
  refine sp_collect (rows:=rowsR mi g a b cells) (sn:=sn) hb₂ H₂ S₂ G ho hr hlim RA (by unfold rowsR;rw [List.length_map];lia) (fun r hr=>?_) (by rw [e1];exact R.perm.nodup_iff.mpr R.nd) (by rw [e1];exact fun q=>R.rdy (R.perm.mem_iff.mp q)) (by rw [h₂,←e1,List.map_map];rfl) (fun t ht ha=>(hsn t ht ha).trans ⟨reach_congr fun l hl s hs=>?_,reach_congr fun l hl s hs=>?_⟩) fun h' f' T₃ g1 g2 g3 Kp hb₃ R₃ S₃ c₃ ok₃=>?_
  ·rcases R.cases hr with ⟨c,hc,rfl⟩|⟨q1,q2⟩
   ·have:=hlen c hc;show c.specs.length≤1000;lia
   ·rw [q2];exact Nat.zero_le _
  ·obtain⟨c,hc,rfl⟩:=List.mem_map.mp hl
   exact⟨c.specs,List.mem_map.mpr ⟨_,R.cell hc,rfl⟩,hs⟩
  ·obtain⟨r,hr,rfl⟩:=List.mem_map.mp hl
   rcases R.cases hr with ⟨c,hc,rfl⟩|⟨q1,q2⟩
   ·exact⟨c.specs,List.mem_map_of_mem hc,hs⟩
   ·rw [q2] at hs;cases hs
  ·have M₃:MW i.m mi h.hp (.obj hdo) g T₃:=(M₁.chg0 c₂).chg c₃ fun _=>⟨nk (by decide),nk (by decide),nk (by decide),nk (by decide),nk (by decide),nk (by decide),nk (by decide),nk (by decide)⟩
   have H₃:=H₂.chg c₃ fun _=>⟨nk (by decide),nk (by decide)⟩
   refine k h' f' hdo hr' T₃ g1 g2 g3 Kp hb₃ S₃ (fun c hc=>R₃ _ (R.cell hc)) (fun c hc=>ok₃ _ (R.cell hc)) M₃ H₃ (fun r hr=>?_) (c₃.back (c₁₂.weaken fun _ _ q=>?_) (side_ks (by decide)))
   ·have hx:r∈rootsL mi g a b:=R.perm.mem_iff.mpr (List.mem_append_right _ hr)
    have e2:specsOf cells r=[]:=specsOf_none fun h'=>(List.nodup_append.mp R.nd).2.2 _ h' _ hr rfl
    have:=R₃ (r,specsOf cells r) (List.mem_map_of_mem hx)
    rw [e2] at this
    exact this
   ·have q:_∈[K.m]:=q
    rw [List.mem_singleton] at q;rw [q];exact (by decide:K.m∈([.hp,.th,.real,.slots,.m]:List K))
 refine call_fn (fd:=fd_collect_for) (by rfl) (by rfl) ?_
 show SV _ [some (.obj i.m),some (.int gen)] _ _ _
 have mm:=M.m
 rcases H with rfl|⟨hdo,hr',rfl,H⟩
 ·k_ownIn
  refine AnyK.mk .hd ?_
  refine NewY.intro ?_
  intro hdo T₁ hn₁ h₁ c₁
  refine sp_Handles h₁ fun hr' T₂ H₂ c₂=>⟨rfl,?_⟩
  have c₁₂:Chg noX T T₂:=c₂.fresh c₁ hn₁
  have mm₂:=c₁₂.keep mm
  refine AttrPut.mk mm₂ rfl ?_
  refine PutY.intro ?_
  intro T₃ h₃ c₃
  refine main T₃ hdo hr' (c₃.back (c₁₂.weaken fun _ _ q=>q.elim) (side_kind M.m (by decide))) ?_ (Hds.mk (c₃.otherK H₂.hd h₃ (by decide)) (c₃.otherK H₂.hr h₃ (by decide)))
  have M₂:=M.chg0 c₁₂
  exact⟨h₃,c₃.otherK M₂.frs h₃ (by decide),fun x hx=>c₃.otherK (M₂.fr x hx) h₃ (by decide),c₃.otherK M₂.chs h₃ (by decide),fun x hx=>c₃.otherK (M₂.ch x hx) h₃ (by decide),c₃.otherK M₂.sts h₃ (by decide),c₃.otherK M₂.fas h₃ (by decide),c₃.otherK M₂.hes h₃ (by decide),M.fk,M.len⟩
 ·skip
  repeat o_fieldsN
  refine⟨fun hb=>(nomatch hb),fun _=>?_⟩
  exact main T hdo hr' (.refl _ _) M H
set_option genInjectivity false
noncomputable def DOk (H:TH) (n:Nat) (v:V):Prop:=∃ d,dataV n H v=some d∧PyData.eqv d d=true
theorem mapM_ok {f:V→Option PyData}:∀ {l:List V},(∀ x∈l,∃ d,f x=some d∧PyData.eqv d d=true)→∃ ds,l.mapM f=some ds∧PyData.eqvAll ds ds=true
 | [],_=>⟨[],rfl,rfl⟩
 | a::l,h=>by
  obtain⟨d,e,r⟩:=h a (.head _)
  obtain⟨ds,e',r'⟩:=mapM_ok (l:=l) fun x hx=>h x (.tail _ hx)
  refine⟨d::ds,by rw [List.mapM_cons,e,e'];rfl,?_⟩
  show (PyData.eqv d d&&PyData.eqvAll ds ds)=true
  rw [r,r'];rfl
theorem DOk.int {H:TH} {n:Nat} {i:Int}:DOk H n (.int i):=⟨.int i,by cases n<;>rfl,by show (i==i)=true;simp⟩
theorem DOk.str {H:TH} {n:Nat} {x:Str} (h:PyData.strOk x=true):DOk H n (.str x):=⟨.str x,by cases n<;>exact if_pos h,by show (x==x)=true;simp⟩
theorem DOk.tup {H:TH} {n:Nat} {l:List V} (h:∀ x∈l,DOk H n x):DOk H (n+1) (.tup l):=by
 obtain⟨ds,e,r⟩:=mapM_ok h
 exact⟨.tuple ds,by show Option.map _ (l.mapM (dataV n H))=_;rw [e];rfl,r⟩
theorem DOk.list {T:TH} {n o:Nat} {k:K} {l:List V} (ho:T[o]?=some (k,.list l)) (h:∀ x∈l,DOk T n x):∃ ds,dataV (n+1) T (.obj o)=some (.list ds)∧PyData.eqvAll ds ds=true∧l.mapM (dataV n T)=some ds:=by
 obtain⟨ds,e,r⟩:=mapM_ok h
 refine⟨ds,?_,r,e⟩
 show dataS _ T (.obj o)=_
 unfold dataS
 dsimp only
 rw [ho]
 show Option.map _ (l.mapM (dataV n T))=_
 rw [e];rfl
theorem strOk_words (n:Nat):PyData.strOk (words n)=true:=by
 unfold words;split<;>decide +kernel
theorem mapM_mono {f g:V→Option PyData} (h:∀ x d,f x=some d→g x=some d):∀ {l:List V} {ds:List PyData},l.mapM f=some ds→l.mapM g=some ds:=fun {l}=>by
 induction l with
 | nil=>exact fun e=>e
 | cons a l ih =>
  intro ds e
  rw [List.mapM_cons] at e ⊢
  cases q:f a with
  | none=>rw [q] at e;cases e
  | some b =>
   cases q':l.mapM f with
   | none=>rw [q,q'] at e;cases e
   | some bs =>
    rw [q,q'] at e
    rw [h a b q,ih q']
    exact e
theorem dataS_mono {f g:List V→Option (List PyData)} (h:∀ l ds,f l=some ds→g l=some ds) {T:TH} {v:V} {d:PyData} (e:dataS f T v=some d):dataS g T v=some d:=by
 have m:∀ {c:List PyData→PyData} {l:List V},Option.map c (f l)=some d→Option.map c (g l)=some d:=fun {c l} e=>by
  obtain⟨ds,e1,e2⟩:=Option.map_eq_some_iff.mp e
  rw [h l ds e1];exact congrArg some e2
 cases v with
 | tup l=>exact m e
 | obj o =>
  unfold dataS at e ⊢
  dsimp only at e ⊢
  split at e
  ·exact m e
  ·exact e
 | _=>exact e
theorem dataV_mono {T:TH} (n:Nat):∀ (v:V) (d:PyData),dataV n T v=some d→dataV (n+1) T v=some d:=by
 induction n with
 | zero=>exact fun v d=>dataS_mono fun _ _ e=>some_ne e.symm
 | succ n ih=>exact fun v d=>dataS_mono fun _ _=>mapM_mono ih
theorem DOk.val {H:TH} {n:Nat} {s:Spec} {a:Nat}:DOk H (n+5) (s.valA a):=by
 have hi:∀ {n:Nat} {l:List V},(∀ x∈l,∃ i,x=.int i)→DOk H (n+1) (.tup l):=fun h=>.tup fun x hx=>by obtain⟨i,rfl⟩:=h x hx;exact .int
 have ref:∀ {n a:Nat},DOk H (n+1) (refV a):=fun {n a}=>hi fun x hx=>by
  simp only [List.mem_cons,List.not_mem_nil,or_false] at hx
  rcases hx with rfl|rfl<;>exact⟨_,rfl⟩
 have pair:∀ {n m a:Nat},DOk H (n+3) (pairV m a):=fun {n m a}=>.tup fun x hx=>by
  simp only [List.mem_cons,List.not_mem_nil,or_false] at hx
  rcases hx with rfl|rfl|rfl
  ·exact .int
  ·exact .int
  ·refine .tup fun x hx=>?_
   simp only [List.mem_cons,List.not_mem_nil,or_false] at hx
   rcases hx with rfl|rfl
   ·exact hi fun x hx=>by
     simp only [List.mem_cons,List.not_mem_nil,or_false] at hx
     rcases hx with rfl|rfl<;>exact⟨_,rfl⟩
   ·exact ref
 have emp:∀ {n:Nat},DOk H (n+1) (.tup []):=hi fun x hx=>nomatch hx
 unfold Spec.valA
 split
 ·exact ref
 ·unfold placeV
  refine .tup fun x hx=>?_
  simp only [List.mem_cons,List.not_mem_nil,or_false] at hx
  rcases hx with rfl|rfl
  ·exact .int
  ·refine .tup fun x hx=>?_
   simp only [List.mem_cons,List.not_mem_nil,or_false] at hx
   rcases hx with rfl|rfl|rfl
   ·exact .int
   ·exact .int
   ·exact hi fun x hx=>by rw [List.mem_singleton] at hx;exact⟨_,hx⟩
 ·exact pair
 ·unfold outerV
  refine .tup fun x hx=>?_
  simp only [List.mem_cons,List.not_mem_nil,or_false] at hx
  rcases hx with rfl|rfl|rfl
  ·exact .int
  ·exact .int
  ·refine .tup fun x hx=>?_
   simp only [List.mem_cons,List.not_mem_nil,or_false] at hx
   rcases hx with rfl|rfl
   ·exact pair
   ·exact hi fun x hx=>by
     simp only [List.mem_cons,List.not_mem_nil,or_false] at hx
     rcases hx with rfl|rfl<;>exact⟨_,rfl⟩
 ·exact hi fun x hx=>by
   simp only [List.mem_cons,List.not_mem_nil,or_false] at hx
   rcases hx with rfl|rfl<;>exact⟨_,rfl⟩
 ·refine .tup fun x hx=>?_
  simp only [List.mem_cons,List.not_mem_nil,or_false] at hx
  rcases hx with rfl|rfl
  ·exact .int
  ·refine .tup fun x hx=>?_
   simp only [List.mem_cons,List.not_mem_nil,or_false] at hx
   rcases hx with rfl|rfl|rfl|rfl
   ·exact .int
   ·exact .int
   ·exact .int
   ·exact emp
 ·refine .tup fun x hx=>?_
  simp only [List.mem_cons,List.not_mem_nil,or_false] at hx
  rcases hx with rfl|rfl
  ·exact .int
  ·refine .tup fun x hx=>?_
   simp only [List.mem_cons,List.not_mem_nil,or_false] at hx
   rcases hx with rfl|rfl|rfl
   ·exact .int
   ·exact .int
   ·exact emp
 ·refine .tup fun x hx=>?_
  simp only [List.mem_cons,List.not_mem_nil,or_false] at hx
  rcases hx with rfl|rfl
  ·exact .int
  ·exact .str (strOk_words _)
theorem CmpY.ne_same {T:TH} {o₁ o₂:Nat} {k₁ k₂:K} {l:List V} {Q:Bool→Prop} (h1:T[o₁]?=some (k₁,.list l)) (h2:T[o₂]?=some (k₂,.list l)) (h:∀ x∈l,DOk T 7 x) (q:Q false):CmpY T Q .ne (.obj o₁) (.obj o₂):=by
 obtain⟨ds,e,r,e'⟩:=DOk.list h1 h
 obtain⟨ds',e2,r2,e2'⟩:=DOk.list h2 h
 rw [e'] at e2';cases e2'
 have r':PyData.eqv (.list ds) (.list ds)=true:=r
 exact .data e e2 (congrArg (fun b=>some (!b)) r') q
theorem CmpY.eq_tup {T:TH} {l:List V} {Q:Bool→Prop} (h:DOk T 8 (.tup l)) (q:Q true):CmpY T Q .eq (.tup l) (.tup l):=by
 obtain⟨d,e,r⟩:=h
 exact .data e e (congrArg some r) q
theorem any_of_mapM {f:V→Option PyData} {p:PyData→Bool}:∀ {l:List V} {ds:List PyData} {x:V} {d:PyData},l.mapM f=some ds→x∈l→f x=some d→p d=true→ds.any p=true:=fun {l}=>by
 induction l with
 | nil=>exact fun _ hx=>nomatch hx
 | cons a l ih =>
  intro ds x d e hx hd hp
  rw [List.mapM_cons] at e
  cases q:f a with
  | none=>rw [q] at e;cases e
  | some b =>
   cases q':l.mapM f with
   | none=>rw [q,q'] at e;cases e
   | some bs =>
    rw [q,q'] at e
    cases e
    rw [List.any_cons]
    rcases List.mem_cons.mp hx with rfl|hx
    ·rw [q] at hd;cases hd;rw [hp];rfl
    ·rw [ih q' hx hd hp];simp
theorem CmpY.nmem_in {T:TH} {o r:Nat} {k:K} {l:List V} {Q:Bool→Prop} (h1:T[o]?=some (k,.list l)) (hr:V.obj r∈l) (h:∀ x∈l,DOk T 7 x) (q:Q false):CmpY T Q .nmem (.obj r) (.obj o):=by
 obtain⟨ds,e,_,e'⟩:=DOk.list h1 h
 obtain⟨d,e7,r8⟩:=h _ hr
 have ha:ds.any (fun y=>PyData.eqv y d)=true:=any_of_mapM e' hr e7 r8
 exact .memL (dataV_mono 7 _ _ e7) e (congrArg (fun b=>some (!b)) ha) q
set_option genInjectivity false
theorem filterMap_if {α β γ:Type} {l:List α} {g:α→β} {f:β→Option γ} {p:α→Bool} {k:α→γ} (h:∀ a∈l,f (g a)=if p a then some (k a) else none):(l.map g).filterMap f=(l.filter p).map k:=by
 induction l with
 | nil=>rfl
 | cons a l ih =>
  have ih:=ih fun x hx=>h x (.tail _ hx)
  have ha:=h a (.head _)
  rw [List.map_cons,List.filterMap_cons,ha,List.filter_cons]
  by_cases q:p a=true
  ·rw [if_pos q,if_pos q,List.map_cons,ih]
  ·rw [if_neg q,if_neg q,ih]
theorem ok_rows {T:TH} {ts:List Th} {cells:List Ce} {r:Nat} (h:T[r]?=some (.real,.list ((specsOf cells r).map (Spec.val (whOf ts))))):DOk T 7 (.obj r):=by
 obtain⟨ds,e1,e2,_⟩:=DOk.list (n:=6) h fun x hx=>by
  obtain⟨s,_,rfl⟩:=List.mem_map.mp hx
  rw [val_tgt];exact DOk.val (n:=1)
 exact⟨_,e1,e2⟩
set_option maxHeartbeats 2000000 in
theorem sp_named {n:Nat} {i:WId} {mi:MId} {f:WN} {h:Hid} {hd:V} {g:MG} {a b:Nat} {ts:List Th} {cells:List Ce} {ex:List Nat} {T:TH} {Q:V→TH→Prop} (hw:T[i.w]?=some (.w,i.obj f)) (C:CL i ts cells T) (M:MW i.m mi h.hp hd g T) (R:Rts mi g a b h cells ex T)
  (k:∀ T',Chg noX T T'→Q (.bool true) T'):CallY (CN (n+2)) 82 [.obj i.w] T Q:=by
 have hn':(cells.map Ce.rid).Nodup:=(List.nodup_append.mp R.nd).1
 have hcl:=R.cl
 have hrl:(rootsL mi g a b).length≤6000:=by
  rw [R.perm.length_eq,List.length_append,List.length_map];have:=R.exl;lia
 have row:∀ {T'},Chg noX T T'→∀ r∈rootsL mi g a b,T'[r]?=some (.real,.list ((specsOf cells r).map (Spec.val (whOf ts))))∧(specsOf cells r).length≤10:=by
  intro T' c r hr
  rcases List.mem_append.mp (R.perm.mem_iff.mp hr) with q|q
  ·obtain⟨x,hx,rfl⟩:=List.mem_map.mp q
   rw [specsOf_cell hn' hx];exact⟨c.keep (C.row x hx),C.len x hx⟩
  ·have e2:specsOf cells r=[]:=specsOf_none fun h'=>(List.nodup_append.mp R.nd).2.2 _ h' _ q rfl
   rw [e2];exact⟨c.keep (R.exs r q),Nat.zero_le _⟩
 let P:Nat→Bool:=fun r=>decide (0<(specsOf cells r).length)
 refine call_fn (fd:=fd_law_named) (by rfl) (by rfl) ?_
 show SV _ [some (.obj i.w),none,none,none] _ _ _
 k_ownIn
 refine sp_roots M R.st fun o T₁ hn₁ h₁ c₁=>?_
 refine CompY.mk (.tmp 820) (fun x=>match x with|.obj r=>if P r then some (.obj r) else none|_=>none) h₁ (by rw [List.length_map];unfold limit;lia) (fun x T' hx c=>?_) ?_
 ·obtain⟨r,hr,rfl⟩:=List.mem_map.mp hx
  obtain⟨e1,e2⟩:=row (c₁.tr c) r hr
  refine ItemC.cond (p:=P r) ?_ ?_
  ·k_ownIn
   refine LenY.list e1 (by rw [List.length_map];unfold limit;lia) ?_
   rw [List.length_map]
   k_ownIn
   exact⟨by simp only [P];congr 1;by_cases q:0<(specsOf cells r).length<;>simp [q]<;>lia,rfl⟩
  ·k_ownIn
   exact⟨rfl,rfl⟩
 ·refine NewY.intro ?_
  intro gi T₂ hn₂ h₂ c₂
  rw [filterMap_if (p:=P) (k:=V.obj) fun r _=>rfl] at h₂
  have c₁₂:=c₁.tr c₂
  have hw₂:=c₁₂.keep hw
  have hce₂:=c₁₂.keep C.ce
  k_ownIn
  refine CompY.mk (.tmp 821) (fun x=>match x with|.tup [_,.obj r,_]=>if P r then some (.obj r) else none|_=>none) hce₂ (by rw [List.length_map];unfold limit;lia) (fun x T' hx c=>?_) ?_
  ·obtain⟨y,hy,rfl⟩:=List.mem_map.mp hx
   have hyr:y.rid∈rootsL mi g a b:=R.perm.mem_iff.mpr (List.mem_append_left _ (List.mem_map_of_mem hy))
   obtain⟨e1,e2⟩:=row (c₁₂.tr c) y.rid hyr
   refine ItemC.cond (p:=P y.rid) ?_ ?_
   ·k_ownIn
    refine LenY.list e1 (by rw [List.length_map];unfold limit;lia) ?_
    rw [List.length_map]
    k_ownIn
    exact⟨by simp only [P];congr 1;by_cases q:0<(specsOf cells y.rid).length<;>simp [q]<;>lia,rfl⟩
   ·k_ownIn
    exact⟨rfl,rfl⟩
  ·refine NewY.intro ?_
   intro wi T₃ hn₃ h₃ c₃
   rw [filterMap_if (p:=fun y:Ce=>P y.rid) (k:=fun y=>V.obj y.rid) fun r _=>rfl] at h₃
   have c₁₃:=c₁₂.tr c₃
   have h₂₃:=c₃.keep h₂
   k_ownIn
   have hln:((rootsL mi g a b).filter P).length=(cells.filter fun y=>P y.rid).length:=by
    have h1:=(R.perm.filter P).length_eq
    rw [List.filter_append,List.length_append] at h1
    have h2:ex.filter P=[]:=List.filter_eq_nil_iff.mpr fun r hr=>by
     have e2:specsOf cells r=[]:=specsOf_none fun h'=>(List.nodup_append.mp R.nd).2.2 _ h' _ hr rfl
     simp [P,e2]
    have h3:((cells.map Ce.rid).filter P).length=(cells.filter fun y=>P y.rid).length:=by
     rw [List.filter_map,List.length_map];rfl
    rw [h2,h3] at h1
    simpa using h1
   have hl1:((rootsL mi g a b).filter P).length≤6000:=Nat.le_trans (List.length_filter_le _ _) hrl
   k_ownIn
   refine (ForY.over (fun j ρ T'=>T'=T₃∧∃ x:Option V,ρ=[some (.obj i.w),some (.obj gi),some (.obj wi),x]) ?_)
   k_ownIn
   refine⟨⟨rfl,none,rfl⟩,?_,?_⟩
   ·rintro j v ρ T' hv ⟨rfl,x,rfl⟩ ho
    rw [List.getElem?_map] at hv
    obtain⟨y,hy,rfl⟩:=Option.map_eq_some_iff.mp hv
    have hym:=List.mem_of_getElem? hy
    obtain⟨hy1,hy2⟩:=List.mem_filter.mp hym
    have hyr:y.rid∈rootsL mi g a b:=R.perm.mem_iff.mpr (List.mem_append_left _ (List.mem_map_of_mem hy1))
    k_ownIn
    refine CmpY.nmem_in h₂₃ (List.mem_map.mpr ⟨y.rid,List.mem_filter.mpr ⟨hyr,hy2⟩,rfl⟩) (fun x hx=>?_) ?_
    ·obtain⟨r,hr,rfl⟩:=List.mem_map.mp hx
     exact ok_rows (row c₁₃ r (List.mem_filter.mp hr).1).1
    ·k_ownIn
     exact⟨⟨rfl,_,rfl⟩,ho⟩
   ·rintro ρ T' ⟨rfl,x,rfl⟩ ho
    k_ownIn
    refine LenY.list h₂₃ (by rw [List.length_map];unfold limit;lia) ?_
    k_ownIn
    refine LenY.list ho (by rw [List.length_map];unfold limit;lia) ?_
    k_ownIn
    rw [List.length_map,List.length_map,hln]
    have e:((((cells.filter fun y=>P y.rid).length:Int))==(((cells.filter fun y=>P y.rid).length:Int)))=true:=by simp
    rw [e]
    exact k _ c₁₃
set_option genInjectivity false
noncomputable def seenL (ss:List Nat):List (Int×V):=ss.map fun (x:Nat)=>((x:Int),V.int 1)
noncomputable def todoL (ns:List Nat):List V:=ns.map fun (x:Nat)=>V.int (x:Int)
theorem seen_get {ss:List Nat} {x:Nat}:(dget (seenL ss) (x:Int)).isSome=decide (x∈ss):=by
 induction ss with
 | nil=>simp [seenL,dget]
 | cons a l ih =>
  show (dget (((a:Int),V.int 1)::seenL l) (x:Int)).isSome=_
  unfold dget
  by_cases q:(a:Int)=x
  ·have q2:x=a:=by lia
   simp [q2]
  ·have q2:x≠a:=by lia
   simp only [q,↓reduceIte,ih,List.mem_cons,q2,false_or]
structure RI (ts:List Th) (rows:List (List Spec)) (ns ss:List Nat):Prop where
 sub:∀ x∈ss,∃ t,t.ser=x∧Reach ts rows t
 todo:∀ x∈ns,0<x→∃ t,t.ser=x∧Reach ts rows t
 root:∀ r∈rows,∀ s∈r,∀ v,tgt ts s=some v→v.ser∈ss∨v.ser∈ns
 step:∀ u∈ts,u.ser∈ss→∀ s∈u.specs,∀ v,tgt ts s=some v→v.ser∈ss∨v.ser∈ns
 nd:ss.Nodup
theorem RI.le {ts:List Th} {rows:List (List Spec)} {ns ss:List Nat} (h:RI ts rows ns ss):ss.length≤ts.length:=by
 have:=nodup_le (ts:=ts.map Th.ser) h.nd fun x hx=>by
  obtain⟨t,e,r⟩:=h.sub x hx
  exact List.mem_map.mpr ⟨t,reach_mem r,e⟩
 rwa [List.length_map] at this
theorem RI.skip {ts:List Th} {rows:List (List Spec)} {ws ss:List Nat} {x:Nat} (h:RI ts rows (ws++[x]) ss) (q:x=0∨x∈ss):RI ts rows ws ss:=by
 have aux:∀ {s:Spec} {v:Th},tgt ts s=some v→(v.ser∈ss∨v.ser∈ws++[x])→v.ser∈ss∨v.ser∈ws:=by
  intro s v e h'
  rcases h' with h'|h'
  ·exact .inl h'
  ·rcases List.mem_append.mp h' with h'|h'
   ·exact .inr h'
   ·have h':=List.mem_singleton.mp h'
    obtain⟨_,e1,e2⟩:=tgt_mem e
    rcases q with q|q
    ·lia
    ·exact .inl (h'▸q)
 exact⟨h.sub,fun y hy=>h.todo y (List.mem_append_left _ hy),fun r hr s hs v e=>aux e (h.root r hr s hs v e),fun u hu hus s hs v e=>aux e (h.step u hu hus s hs v e),h.nd⟩
theorem RI.go {ts:List Th} {rows:List (List Spec)} {ws ss:List Nat} {x:Nat} {u:Th} (G:Good ts) (h:RI ts rows (ws++[x]) ss) (hx:x∉ss) (hu:Reach ts rows u) (e:u.ser=x):RI ts rows (ws++u.specs.map Spec.one) (ss++[x]):=by
 have aux:∀ {v:Th},(v.ser∈ss∨v.ser∈ws++[x])→v.ser∈ss++[x]∨v.ser∈ws++u.specs.map Spec.one:=by
  intro v h'
  rcases h' with h'|h'
  ·exact .inl (List.mem_append_left _ h')
  ·rcases List.mem_append.mp h' with h'|h'
   ·exact .inr (List.mem_append_left _ h')
   ·exact .inl (List.mem_append_right _ h')
 have hum:=reach_mem hu
 refine⟨fun y hy=>?_,fun y hy h0=>?_,fun r hr s hs v e=>aux (h.root r hr s hs v e),fun w hw hws s hs v e'=>?_,?_⟩
 ·rcases List.mem_append.mp hy with hy|hy
  ·exact h.sub y hy
  ·exact⟨u,by rw [List.mem_singleton.mp hy];exact e,hu⟩
 ·rcases List.mem_append.mp hy with hy|hy
  ·exact h.todo y (List.mem_append_left _ hy) h0
  ·obtain⟨s,hs,rfl⟩:=List.mem_map.mp hy
   obtain⟨_,v,hv,hv2,_⟩:=(G.ok u hum s hs).one h0
   exact⟨v,hv2,.step hu hs (tgt_of (sers_of G.sers) h0 hv hv2)⟩
 ·rcases List.mem_append.mp hws with q|q
  ·exact aux (h.step w hw q s hs v e')
  ·have:w=u:=sers_of G.sers w hw u hum (by rw [List.mem_singleton.mp q,e])
   subst this
   obtain⟨_,e1,e2⟩:=tgt_mem e'
   exact .inr (List.mem_append_right _ (List.mem_map.mpr ⟨s,hs,e2.symm⟩))
 ·rw [List.nodup_append]
  refine⟨h.nd,by simp,fun a ha b hb=>?_⟩
  rw [List.mem_singleton.mp hb]
  intro q;exact hx (q▸ha)
theorem RI.done {ts:List Th} {rows:List (List Spec)} {ss:List Nat} (h:RI ts rows [] ss) (t:Th) (r:Reach ts rows t):t.ser∈ss:=by
 induction r with
 | root hr hs e=>rcases h.root _ hr _ hs _ e with q|q;exact q;exact (nomatch q)
 | step hu hs e ih=>rcases h.step _ (reach_mem hu) ih _ hs _ e with q|q;exact q;exact (nomatch q)
noncomputable def restN:List Th→List Nat→Nat
 | [],_=>0
 | t::r,ss=>(if t.ser∈ss then 0 else t.specs.length)+restN r ss
theorem restN_le:∀ {ts:List Th} {ss:List Nat},(∀ t∈ts,t.specs.length≤10)→restN ts ss≤10*ts.length
 | [],_,_=>Nat.zero_le _
 | t::r,ss,h=>by
  have:=restN_le (ts:=r) (ss:=ss) fun t ht=>h t (.tail _ ht)
  have:=h t (.head _)
  unfold restN
  rw [List.length_cons]
  split<;>lia
theorem restN_mono:∀ {ts:List Th} {ss:List Nat} {x:Nat},restN ts (ss++[x])≤restN ts ss
 | [],_,_=>Nat.le_refl _
 | t::r,ss,x=>by
  have:=restN_mono (ts:=r) (ss:=ss) (x:=x)
  unfold restN
  by_cases q:t.ser∈ss
  ·rw [if_pos q,if_pos (List.mem_append_left _ q)];lia
  ·rw [if_neg q];split<;>lia
theorem restN_go:∀ {ts:List Th} {ss:List Nat} {u:Th},u∈ts→u.ser∉ss→restN ts (ss++[u.ser])+u.specs.length≤restN ts ss
 | t::r,ss,u,hu,hn=>by
  unfold restN
  rcases List.mem_cons.mp hu with rfl|hu
  ·rw [if_neg hn,if_pos (List.mem_append_right _ (List.mem_singleton.mpr rfl))]
   have:=restN_mono (ts:=r) (ss:=ss) (x:=u.ser)
   lia
  ·have:=restN_go (ts:=r) (ss:=ss) hu hn
   by_cases q:t.ser∈ss
   ·rw [if_pos q,if_pos (List.mem_append_left _ q)];lia
   ·rw [if_neg q];split<;>lia
theorem flat_le {α:Type} {l:List α} {f:α→List V} {m:Nat} (h:∀ x∈l,(f x).length≤m):(l.flatMap f).length≤m*l.length:=by
 induction l with
 | nil=>simp
 | cons a l ih =>
  have:=ih fun x hx=>h x (.tail _ hx)
  have:=h a (.head _)
  rw [List.flatMap_cons,List.length_append,List.length_cons,Nat.mul_succ];omega
theorem flat_congr {α:Type} {l:List α} {f g:α→List V} (h:∀ x∈l,f x=g x):l.flatMap f=l.flatMap g:=by
 induction l with
 | nil=>rfl
 | cons a l ih=>rw [List.flatMap_cons,List.flatMap_cons,h a (.head _),ih fun x hx=>h x (.tail _ hx)]
theorem flat_map' {α β:Type} {l:List α} {g:α→β} {f:β→List V}:(l.map g).flatMap f=l.flatMap fun x=>f (g x):=by
 induction l with
 | nil=>rfl
 | cons a l ih=>rw [List.map_cons,List.flatMap_cons,ih,List.flatMap_cons]
theorem seen_new {ss:List Nat} {x:Nat} (h:x∉ss):∀ p∈seenL ss,p.1≠(x:Int):=fun p hp q=>by
 obtain⟨z,hz,rfl⟩:=List.mem_map.mp hp
 exact h (Int.ofNat.inj q▸hz)
structure RW (to se:Nat) (ts:List Th) (rows:List (List Spec)) (ns ss:List Nat) (T₀ T:TH):Prop where
 todo:T[to]?=some (.tmp 830,.list (ns.map fun (x:Nat)=>V.int (x:Int)))
 seen:T[se]?=some (.tmp 831,.di (seenL ss))
 I:RI ts rows ns ss
 m:ns.length+restN ts ss≤80000
 c:Chg noX T₀ T
section
variable {n to se x₁:Nat} {i:WId} {f:WN} {h:Hid} {hf:Hn} {ts:List Th} {rows:List (List Spec)} {ns ss ws:List Nat} {T₀ T:TH} {x y:Option V} {u:Th}
set_option maxHeartbeats 1000000 in
theorem reach_for {Q:PS'} (hr:T[u.pid]?=some (.tspec,.list (u.specs.map Spec.v))) (ht:T[to]?=some (.tmp 830,.list (ws.map fun (x:Nat)=>V.int (x:Int)))) (hl:ws.length≤80000) (hu:u.specs.length≤10)
  (k:∀ y T',T'[to]?=some (.tmp 830,.list ((ws++u.specs.map Spec.one).map fun (x:Nat)=>V.int (x:Int)))→Chg (oneX to) T T'→Q (none,[some (.obj i.w),some (.obj to),some (.obj se),x,y]) T') :
  ForY [4] (fun ρ T Q=>SV (CN n) ρ [.expr (.append (.loc 1) (.idx (.loc 4) (.lit (.int 1))))] T Q) Q [some (.obj i.w),some (.obj to),some (.obj se),x,y] T (.obj u.pid):=by
 refine ForY.split (G:=Option V) (fun y=>[some (.obj i.w),some (.obj to),some (.obj se),x,y]) (fun pre _ _ T'=>T'[to]?=some (.tmp 830,.list ((ws++pre.map Spec.one).map fun (x:Nat)=>V.int (x:Int)))∧Chg (oneX to) T T') hr y ⟨by rw [List.map_nil,List.append_nil];exact ht,.refl _ _⟩ ?_ fun y T' h _=>k y T' h.1 h.2
 rintro Q' pre s post y T' e ⟨h₁,c₁⟩ ho q _
 have hl:(ws++pre.map Spec.one).length≤80000+10:=by
  rw [List.length_append,List.length_map]
  exact Nat.add_le_add hl (Nat.le_trans (by rw [←e,List.length_append];exact Nat.le_add_right _ _) hu)
 unfold Spec.v
 k_ownIn
 refine⟨lmL hl,PutY.tr c₁ fun T₂ h₂ c₂=>?_⟩
 k_ownIn
 exact q _ T₂ ⟨by rw [List.map_append (f:=Spec.one),←List.append_assoc,List.map_append (l₂:=[s].map Spec.one)];exact h₂,c₂⟩ (c₂.otherK hr h₂ (by decide))
set_option maxHeartbeats 1000000 in
theorem reach_loop {Q:PS'} {x y:Option V} (W:HW i f h hf ts T₀) (hnt:T₀[to]?=none) (hns:T₀[se]?=none) (htl:ts.length≤5000) (D:RW to se ts rows ns ss T₀ T)
  (k:∀ ss ρ T',RW to se ts rows [] ss T₀ T'→Q (some (.obj se),ρ) T'):SV (CN n) [some (.obj i.w),some (.obj to),some (.obj se),x,y] (fd_law_reached.body.drop 2) T Q:=by
 refine HandS.intro (WhileY.gh (G:=(List Nat×List Nat)×Option V×Option V) (fun g=>[some (.obj i.w),some (.obj to),some (.obj se),g.2.1,g.2.2]) (fun g=>g.1.1.length+restN ts g.1.2) (fun g T'=>RW to se ts rows g.1.1 g.1.2 T₀ T') ((ns,ss),x,y) D ?_)
 clear D
 rintro Q' ⟨⟨ns,ss⟩,x,y⟩ T₃ D q _
 have hnl:ns.length≤80000:=Nat.le_trans (Nat.le_add_right _ _) D.m
 have h₃:=D.todo
 k_ownIn
 refine LenY.map h₃ hnl ?_
 k_ownIn
 refine⟨fun hd=>?_,fun hd=>?_⟩
 ·have h0:ns.length≠0:=fun e=>by rw [e] at hd;cases hd
  obtain⟨ws,x₁,hws,_⟩:=pop_len h0
  obtain⟨e1,e2⟩:=pop_at (f:=fun (x:Nat)=>V.int (x:Int)) hws
  have I:=D.I
  have hm:=D.m
  clear hd h0
  k_ownIn
  refine⟨lmLe hnl,GetY.mk e1 ?_⟩
  rw [e2]
  refine PutY.intro fun T₄ h₄ c₄=>?_
  have g₄:=c₄.otherK D.seen h₄ (by decide)
  have c:=c₄.fresh D.c hnt
  have hw₄:=c.keep W.bk.w
  subst hws
  rw [List.length_append,List.length_singleton,Nat.add_right_comm] at hm
  have hlt:ws.length+restN ts ss<(ws++[x₁]).length+restN ts ss:=by rw [List.length_append,List.length_singleton,Nat.add_right_comm];exact Nat.lt_succ_self _
  clear e1 e2 D h₃ c₄ hnl
  k_ownIn
  refine⟨fun hz=>?_,fun hz=>?_⟩
  ·have hz':0<x₁:=Int.ofNat_lt.mp (of_decide_eq_true hz)
   k_ownIn
   refine CmpY.nmem_di g₄ ?_
   rw [seen_get]
   by_cases hx:x₁∈ss
   ·rw [decide_eq_true hx]
    k_ownIn
    exact q ((ws,ss),_,_) T₄ hlt ⟨h₄,g₄,I.skip (.inr hx),Nat.le_of_succ_le hm,c⟩
   ·rw [decide_eq_false hx]
    obtain⟨u,hue,hur⟩:=I.todo x₁ (List.mem_append_right _ (.head _)) hz'
    have hum:=reach_mem hur
    obtain⟨wl,hwt,hw1,hw2,hw3⟩:=W.bk.wt
    have hgo:=restN_go hum (ss:=ss) (by rw [hue];exact hx)
    rw [hue] at hgo
    have hu10:=W.good.len u hum
    have hle:(ws++u.specs.map Spec.one).length+restN ts (ss++[x₁])≤ws.length+restN ts ss:=by
     rw [List.length_append,List.length_map,Nat.add_assoc,Nat.add_comm u.specs.length];exact Nat.add_le_add_left hgo _
    k_ownIn
    refine IdxPut.di g₄ (lmL (Nat.le_trans I.le htl)) ?_
    rw [dput_new (seen_new hx)]
    refine PutY.intro fun T₅ h₅ c₅=>?_
    have h₅:T₅[se]?=some (.tmp 831,.di (seenL (ss++[x₁]))):=by unfold seenL;rw [List.map_append];exact h₅
    have h₄:=c₅.otherK h₄ h₅ (by decide)
    have c₅:=c₅.fresh c hns
    have hw₅:=c₅.keep W.bk.w
    have hwt₅:=c₅.keep hwt
    k_ownIn
    refine IdxY.di hwt₅ (hue▸hw3 u hum) ?_
    k_ownIn
    refine reach_for (c₅.keep (W.bk.pid u hum)) h₄ (Nat.le_trans (Nat.le_add_right _ _) (Nat.le_of_succ_le hm)) hu10 fun y T₆ h₆ c₆=>?_
    k_ownIn
    exact q ((_,_),_,_) T₆ (Nat.lt_of_le_of_lt hle hlt) ⟨h₆,c₆.otherK h₅ h₆ (by decide),I.go W.good hx hur hue,Nat.le_trans hle (Nat.le_of_succ_le hm),c₆.fresh c₅ hnt⟩
  ·have hz':x₁=0:=Nat.eq_zero_of_not_pos fun h=>of_decide_eq_false hz (Int.ofNat_lt.mpr h)
   k_ownIn
   exact q ((ws,ss),_,_) T₄ hlt ⟨h₄,g₄,I.skip (.inl hz'),Nat.le_of_succ_le hm,c⟩
 ·have h0:ns=[]:=List.eq_nil_of_length_eq_zero (Nat.eq_zero_of_not_pos fun h=>of_decide_eq_false hd (Int.ofNat_lt.mpr h))
  subst h0
  k_ownIn
  exact k ss _ T₃ D
end
set_option maxHeartbeats 2000000 in
theorem sp_reached {n:Nat} {i:WId} {f:WN} {h:Hid} {hf:Hn} {ts:List Th} {cells:List Ce} {T:TH} {Q:V→TH→Prop} (W:HW i f h hf ts T) (C:CL i ts cells T) (hcl:cells.length≤2000) (htl:ts.length≤5000)
  (k:∀ (o:Nat) (ss:List Nat) T',T'[o]?=some (.tmp 831,.di (seenL ss))→(∀ t∈ts,t.ser∈ss ↔ Reach ts (cells.map Ce.specs) t)→Chg noX T T'→Q (.obj o) T'):CallY (CN (n+1)) 83 [.obj i.w] T Q:=by
 have hw:=W.bk.w
 have hce:=C.ce
 refine call_fn (fd:=fd_law_reached) (by rfl) (by rfl) ?_
 show SV _ [some (.obj i.w),none,none,none,none] _ _ _
 let ns₀:List Nat:=cells.flatMap fun c=>c.specs.map Spec.one
 classical
 let fc:V→List V:=fun x=>if h:∃ c∈cells,c.v=x then todoL ((Classical.choose h).specs.map Spec.one) else []
 have hfc:∀ c∈cells,fc c.v=todoL (c.specs.map Spec.one):=by
  intro c hc
  have hex:∃ c'∈cells,c'.v=c.v:=⟨c,hc,rfl⟩
  show (if h:∃ c'∈cells,c'.v=c.v then todoL ((Classical.choose h).specs.map Spec.one) else [])=_
  rw [dif_pos hex]
  obtain⟨q1,q2⟩:=Classical.choose_spec hex
  generalize Classical.choose hex=c' at q1 q2 ⊢
  have e:c'.rid=c.rid:=by
   unfold Ce.v at q2
   simp only [V.tup.injEq,List.cons.injEq,V.str.injEq,V.obj.injEq] at q2
   exact q2.2.1
  have e1:=specsOf_cell C.rn q1
  rw [e,specsOf_cell C.rn hc] at e1
  rw [e1]
 have hflat:(cells.map Ce.v).flatMap fc=todoL ns₀:=by
  rw [flat_map']
  show _=List.map _ (cells.flatMap fun c=>c.specs.map Spec.one)
  rw [List.map_flatMap]
  exact flat_congr fun c hc=>hfc c hc
 have hns:(todoL ns₀).length≤10*cells.length:=by
  show (List.map _ (cells.flatMap fun c=>c.specs.map Spec.one)).length≤_
  rw [List.map_flatMap]
  exact flat_le fun c hc=>by rw [List.length_map,List.length_map];exact C.len c hc
 have hns':ns₀.length≤20000:=by
  have:(todoL ns₀).length=ns₀.length:=List.length_map _
  lia
 k_ownIn
 refine Comp2Y.mk (.tmp 830) fc C.ce (by rw [hflat];unfold limit;lia) (fun x T' hx c=>?_) ?_
 ·obtain⟨y,hy,rfl⟩:=List.mem_map.mp hx
  refine Comp2I.mk (fun v=>match v with|.tup [_,b,_]=>b|_=>.none) (C.spec y hy) ?_ ?_ ?_
  ·rw [hfc y hy];unfold todoL;rw [List.map_map,List.map_map];rfl
  ·unfold Ce.v
   k_ownIn
   exact⟨rfl,rfl⟩
  ·intro v T'' hv c'
   obtain⟨s,hs,rfl⟩:=List.mem_map.mp hv
   unfold Spec.v
   k_ownIn
   exact⟨rfl,rfl⟩
 rw [hflat]
 refine NewY.intro ?_
 intro to T₁ hn₁ h₁ c₁
 have hw₁:=c₁.keep hw
 k_ownIn
 refine AnyK.mk (.tmp 831) ?_
 refine NewY.intro ?_
 intro se T₂ hn₂ h₂ c₂
 have h₁':=c₂.keep h₁
 have c₁₂:=c₁.tr c₂
 refine reach_loop W hn₁ (none_back hn₂ (c₁.weaken fun _ _ _=>trivial)) htl (ns:=ns₀) (ss:=[]) ⟨h₁',h₂,⟨fun _ h=>(nomatch h),fun x hx h0=>?_,fun r hr s hs v e=>?_,fun _ _ h=>(nomatch h),List.nodup_nil⟩,?_,c₁₂⟩ fun ss ρ T' D=>k _ ss T' D.seen (fun t ht=>⟨fun q=>by
   obtain⟨t',e,r⟩:=D.I.sub _ q
   exact sers_of W.good.sers t' (reach_mem r) t ht e▸r,fun r=>D.I.done t r⟩) D.c
 ·obtain⟨c,hc,hx⟩:=List.mem_flatMap.mp hx
  obtain⟨s,hs,rfl⟩:=List.mem_map.mp hx
  obtain⟨_,v,hv,hv2,_⟩:=(C.ok c hc s hs).one h0
  exact⟨v,hv2,.root (List.mem_map_of_mem hc) hs (tgt_of (sers_of W.good.sers) h0 hv hv2)⟩
 ·obtain⟨c,hc,rfl⟩:=List.mem_map.mp hr
  obtain⟨_,_,e2⟩:=tgt_mem e
  exact .inr (List.mem_flatMap.mpr ⟨c,hc,List.mem_map.mpr ⟨s,hs,e2.symm⟩⟩)
 ·exact Nat.le_trans (Nat.add_le_add hns' (Nat.le_trans (restN_le W.good.len) (Nat.mul_le_mul_left 10 htl))) (Nat.le_of_ble_eq_true rfl)
set_option genInjectivity false
theorem filterMap_one {α β γ:Type} {l:List α} {g:α→β} {f:β→Option γ} {k:α→γ} (h:∀ a∈l,f (g a)=some (k a)):(l.map g).filterMap f=l.map k:=by
 induction l with
 | nil=>rfl
 | cons a l ih=>rw [List.map_cons,List.filterMap_cons,h a (.head _),ih fun x hx=>h x (.tail _ hx)];rfl
theorem map_inj {α β:Type} {f:α→β}:∀ {l:List α},(l.map f).Nodup→∀ a∈l,∀ b∈l,f a=f b→a=b
 | x::r,h,a,ha,b,hb,e=>by
  rw [List.map_cons,List.nodup_cons] at h
  rcases List.mem_cons.mp ha with q|q
  ·rcases List.mem_cons.mp hb with q'|q'
   ·rw [q,q']
   ·refine absurd ?_ h.1
    rw [←q,e];exact List.mem_map_of_mem q'
  ·rcases List.mem_cons.mp hb with q'|q'
   ·refine absurd ?_ h.1
    rw [←q',←e];exact List.mem_map_of_mem q
   ·exact map_inj h.2 a q b q' e
theorem dget_ser {ts:List Th} (hs:Sers ts) {g:Th→V} {t:Th} (ht:t∈ts):dget (ts.map fun t=>((t.ser:Int),g t)) (t.ser:Int)=some (g t):=by
 induction ts with
 | nil=>cases ht
 | cons a r ih =>
  show dget (((a.ser:Int),g a)::r.map fun t=>((t.ser:Int),g t)) _=_
  unfold dget
  by_cases q:a.ser=t.ser
  ·have:=hs a (.head _) t ht q
   subst this
   simp
  ·rw [if_neg (by lia)]
   rcases List.mem_cons.mp ht with rfl|ht
   ·exact absurd rfl q
   ·exact ih (fun a ha b hb=>hs a (.tail _ ha) b (.tail _ hb)) ht
theorem vals_dok {T:TH} {ts:List Th} {specs:List Spec}:∀ x∈specs.map (Spec.val (whOf ts)),DOk T 7 x:=by
 intro x hx
 obtain⟨s,_,rfl⟩:=List.mem_map.mp hx
 rw [val_tgt];exact DOk.val (n:=2)
section
variable {n:Nat} {i:WId} {f:WN} {h:Hid} {hf:Hn} {ts:List Th} {cells:List Ce} {T T₁:TH} {x y z u v:Option V}
set_option maxHeartbeats 2000000 in
theorem same_cells {Q:PS'} (W:HW i f h hf ts T) (C:CL i ts cells T) (c:Chg noX T T₁) (k:∀ ρ T',Chg noX T T'→Q (some (.bool true),ρ) T') :
  SV (CN (n+1)) [some (.obj i.w),some (.obj h.hp),x,y,z,u,v] (fd_law_same.body.drop 3) T₁ Q:=by
 have hw:=c.keep W.bk.w
 have hce:=c.keep C.ce
 k_ownIn
 refine ForY.split (G:=Option V×Option V×Option V×Option V×Option V) (fun g=>[some (.obj i.w),some (.obj h.hp),g.1,g.2.1,g.2.2.1,g.2.2.2.1,g.2.2.2.2]) (fun _ _ _ T'=>Chg noX T T') hce (_,_,_,_,_) c ?_ ?_
 ·rintro Q' pre c post ⟨x,y,z,u,v⟩ T₄ e c₄ ho q _
  have hcm:c∈cells:=e▸List.mem_append_right _ (.head _)
  have hw₄:=c₄.keep W.bk.w
  have hsp:=c₄.keep (C.spec c hcm)
  have hrw:=c₄.keep (C.row c hcm)
  k_ownIn
  obtain⟨gv,hg1,hg2⟩:=vals_items (T:=T₄) (cap:=[0]) (ρ:=[some (V.obj i.w),some (V.obj h.hp),x,y,some (.obj c.pid),some (.str c.tag),some (.obj c.rid)]) hw₄ (c₄.keep W.bk.wh) (C.ok c hcm) rfl
  refine CompY.mk (.tmp 843) gv hsp (lmLe (C.len c hcm)) hg2 ?_
  rw [hg1]
  refine NewY.intro fun o T₅ hn₅ h₅ c₅=>?_
  refine CmpY.ne_same (c₅.keep hrw) h₅ vals_dok ?_
  k_ownIn
  exact q (x,y,some (.obj c.pid),some (.str c.tag),some (.obj c.rid)) T₅ (c₄.tr c₅) (c₅.keep ho)
 ·rintro⟨x,y,z,u,v⟩ T₄ c₄ _
  k_ownIn
  exact k _ T₄ c₄
set_option maxHeartbeats 2000000 in
theorem same_things {Q:PS'} (W:HW i f h hf ts T) (C:CL i ts cells T) (c:Chg noX T T₁) (k:∀ ρ T',Chg noX T T'→Q (some (.bool true),ρ) T') :
  SV (CN (n+1)) [some (.obj i.w),some (.obj h.hp),none,none,none,none,none] (fd_law_same.body.drop 2) T₁ Q:=by
 have hsr:=sers_of W.good.sers
 obtain⟨wl,hwt,hw1,hw2,hw3⟩:=W.bk.wt
 have hh:=c.keep W.hb.hp
 have htl:=c.keep W.hb.tl
 unfold hpObj at hh
 k_ownIn
 refine ForY.split (G:=Option V×Option V×Option V×Option V×Option V) (fun g=>[some (.obj i.w),some (.obj h.hp),g.1,g.2.1,g.2.2.1,g.2.2.2.1,g.2.2.2.2]) (fun _ _ _ T'=>Chg noX T T') htl (_,_,_,_,_) c ?_ ?_
 ·intro Q' pre t post g_;refine pp5 g_ fun x y z u v=>?_;rintro T' e c' ho q _
  have ht:t∈ts:=e▸List.mem_append_right _ (.head _)
  have hth:=c'.keep (W.hb.th t ht)
  unfold Th.obj at hth
  have hw':=c'.keep W.bk.w
  have hwt':=c'.keep hwt
  have hag':=c'.keep W.bk.ag
  have hwh':=c'.keep W.bk.wh
  have hsl':=c'.keep (W.sl t ht)
  have hpid':=c'.keep (W.bk.pid t ht)
  k_ownIn
  refine IdxY.di hwt' (hw3 t ht) ?_
  k_ownIn
  refine IdxY.di hwh' (dget_ser hsr (g:=fun t=>V.int t.addr) ht) ?_
  k_ownIn
  refine IdxY.di hag' (dget_ser hsr (g:=fun t=>V.int t.age) ht) ?_
  k_ownIn
  obtain⟨gv,hg1,hg2⟩:=vals_items (T:=T') (cap:=[0]) (ρ:=[some (V.obj i.w),some (V.obj h.hp),some (V.obj t.tid),some (V.int t.kind),some (V.obj t.pid),u,v]) hw' hwh' (W.good.ok t ht) rfl
  refine CompY.mk (.tmp 842) gv hpid' (lmLe (W.good.len t ht)) hg2 ?_
  rw [hg1]
  refine NewY.intro fun o T₃ hn₃ h₃ c₃=>?_
  refine CmpY.ne_same (c₃.keep hsl') h₃ vals_dok ?_
  k_ownIn
  exact q (some (.obj t.tid),some (.int t.kind),some (.obj t.pid),u,v) T₃ (c'.tr c₃) (c₃.keep ho)
 ·intro g_;refine pp5 g_ fun x y z u v=>?_;rintro T' c' _
  exact same_cells W C c' k
end
set_option maxHeartbeats 2000000 in
theorem sp_same {n:Nat} {i:WId} {f:WN} {mi:MId} {hd:V} {g:MG} {h:Hid} {hf:Hn} {ts:List Th} {cells:List Ce} {T:TH} {Q:V→TH→Prop} (W:HW i f h hf ts T) (C:CL i ts cells T) (M:MW i.m mi h.hp hd g T) (hcl:cells.length≤5000) (htl:ts.length≤5000)
  (k:∀ T',Chg noX T T'→Q (.bool true) T'):CallY (CN (n+2)) 84 [.obj i.w] T Q:=by
 have hw:=W.bk.w
 have mm:=M.m
 have hh:=W.hb.hp
 unfold hpObj at hh
 have htl':=W.hb.tl
 have hag:=W.bk.ag
 have G:=W.good
 classical
 let fs:V→Option V:=fun x=>if h:∃ t∈ts,V.obj t.tid=x then some (.int ((Classical.choose h).ser:Int)) else none
 have hfs:∀ t∈ts,fs (.obj t.tid)=some (.int (t.ser:Int)):=by
  intro t ht
  have hex:∃ t'∈ts,V.obj t'.tid=V.obj t.tid:=⟨t,ht,rfl⟩
  show (if h:∃ t'∈ts,V.obj t'.tid=V.obj t.tid then some (V.int ((Classical.choose h).ser:Int)) else none)=_
  rw [dif_pos hex]
  obtain⟨q1,q2⟩:=Classical.choose_spec hex
  generalize Classical.choose hex=c' at q1 q2 ⊢
  have e:c'.tid=t.tid:=by simpa using q2
  have:c'=t:=map_inj G.tid _ q1 _ ht e
  rw [this]
 refine call_fn (fd:=fd_law_same) (by rfl) (by rfl) ?_
 refine (?_:SV _ [some (.obj i.w),none,none,none,none,none,none] _ _ _)
 k_ownIn
 refine CompY.mk (.tmp 840) fs htl' (by rw [List.length_map];exact Nat.le_trans htl (Nat.le_of_ble_eq_true rfl)) (fun x T' hx c=>?_) ?_
 ·obtain⟨t,ht,rfl⟩:=List.mem_map.mp hx
  rw [hfs t ht]
  refine⟨?_,rfl,rfl⟩
  have hth:=c.keep (W.hb.th t ht)
  unfold Th.obj at hth
  k_ownIn
  exact⟨rfl,rfl⟩
 rw [filterMap_one (g:=fun t:Th=>V.obj t.tid) (k:=fun t:Th=>V.int (t.ser:Int)) fun t ht=>hfs t ht]
 refine NewY.intro ?_
 intro li T₁ hn₁ h₁ c₁
 have hw':=c₁.keep hw
 have hag':=c₁.keep hag
 k_ownIn
 have e1:(List.map (fun x:Int×V=>x.fst) (List.map (fun t:Th=>((t.ser:Int),V.int t.age)) ts))=ts.map fun t=>(t.ser:Int):=by rw [List.map_map];rfl
 have asc:(ts.map fun t=>(t.ser:Int)).Pairwise (·≤·):=by
  rw [List.pairwise_map];exact G.ser.imp fun h=>Int.ofNat_le.mpr (Nat.le_of_lt h)
 unfold kSortB
 rw [e1]
 refine⟨⟨by rw [List.length_map];exact Nat.le_trans htl (Nat.le_of_ble_eq_true rfl),.inr asc⟩,AnyK.mk (.tmp 841) ?_⟩
 rw [sort_asc asc,List.map_map]
 refine NewY.intro ?_
 intro lj T₂ hn₂ h₂ c₂
 have h₁':=c₂.keep h₁
 have c₁₂:=c₁.tr c₂
 have hw₂:=c₁₂.keep hw
 have hh₂:=c₁₂.keep hh
 have htl₂:=c₁₂.keep htl'
 refine CmpY.ne_same h₁' h₂ (fun x hx=>?_) ?_
 ·obtain⟨t,_,rfl⟩:=List.mem_map.mp hx
  exact DOk.int
 have htop:=W.bk.top
 have fin:=same_things (n:=n) (Q:=fun r T=>Q (r.1.getD .none) T) W C c₁₂ fun _ T' c=>k T' c
 repeat first|exact fin|o_fieldsN|k_caught0
set_option genInjectivity false
noncomputable def nxt (gen:Nat):Nat→List Th→List Th
 | _,[]=>[]
 | g,t::r=>{t with addr:=g,age:=bumpA gen t.age}::nxt gen (g+t.size) r
theorem nxt_snoc {gen:Nat}:∀ {l:List Th} {g:Nat} {t:Th},nxt gen g (l++[t])=nxt gen g l++[{t with addr:=g+(l.map Th.size).sum,age:=bumpA gen t.age}]
 | [],g,t=>rfl
 | a::l,g,t=>by
  rw [List.cons_append]
  show _::nxt gen (g+a.size) (l++[t])=_
  rw [nxt_snoc,List.map_cons,List.sum_cons,Nat.add_assoc]
  rfl
theorem nxt_length {gen:Nat}:∀ {l:List Th} {g:Nat},(nxt gen g l).length=l.length
 | [],_=>rfl
 | _::l,_=>congrArg (·+1) nxt_length
theorem nxt_ser {gen:Nat}:∀ {l:List Th} {g:Nat},(nxt gen g l).map Th.ser=l.map Th.ser
 | [],_=>rfl
 | _::l,_=>congrArg (_::·) nxt_ser
theorem nxt_size {gen:Nat}:∀ {l:List Th} {g:Nat},(nxt gen g l).map Th.size=l.map Th.size
 | [],_=>rfl
 | _::l,_=>congrArg (_::·) nxt_size
theorem nxt_append {gen:Nat}:∀ {l r:List Th} {g:Nat},nxt gen g (l++r)=nxt gen g l++nxt gen (g+(l.map Th.size).sum) r
 | [],r,g=>by simp [nxt]
 | a::l,r,g=>by
  rw [List.cons_append]
  show _::nxt gen (g+a.size) (l++r)=_
  rw [nxt_append,List.map_cons,List.sum_cons,Nat.add_assoc]
  rfl
theorem nxt_old {gen:Nat}:∀ {l:List Th} {g:Nat},Packed g l→(∀ t∈l,gen<t.age)→nxt gen g l=l
 | [],_,_,_=>rfl
 | t::l,g,hp,h=>by
  have h1:=h t (.head _)
  show _::nxt gen (g+t.size) l=_
  rw [nxt_old hp.2 fun t ht=>h t (.tail _ ht)]
  have e1:bumpA gen t.age=t.age:=by unfold bumpA;rw [if_pos h1]
  rw [e1]
  have:=hp.1
  subst this
  rfl
theorem nxt_young {gen:Nat}:∀ {l:List Th} {g:Nat},(∀ t∈l,t.age≤gen)→nxt gen g l=agedL g l
 | [],_,_=>rfl
 | t::l,g,h=>by
  have h1:=h t (.head _)
  show _::nxt gen (g+t.size) l=t.aged g::_
  rw [nxt_young fun t ht=>h t (.tail _ ht)]
  have e1:bumpA gen t.age=if t.age<2 then t.age+1 else t.age:=by unfold bumpA;rw [if_neg (by lia)]
  rw [e1]
  rfl
theorem nxt_kept {gen:Nat} {ms os rs:List Th} (hp:Packed 16 (os++rs)) (ho:∀ t∈os,gen<t.age):nxt gen 16 (keptL gen ms os rs)=nextL gen ms os rs:=by
 unfold keptL nextL
 rw [nxt_append,nxt_old (Packed.append.mp hp).1 ho,nxt_young fun t ht=>(mem_young.mp ht).2.1]
 rfl
noncomputable def agL (ts:List Th):List (Int×V):=ts.map fun t=>((t.ser:Int),.int t.age)
noncomputable abbrev goneX:Nat→K→Prop:=ksX [.w,.hp,.th,.real,.slots,.m]
noncomputable def WId.two (i:WId) (ag wo:Nat):WId:={i with ag:=ag,wh:=wo}
noncomputable def Th.re (t:Th) (a A:Nat):Th:={t with addr:=a,age:=A}
noncomputable def WId.nw (i:WId) (wo:Nat):WId:={i with wh:=wo}
noncomputable def WN.tp (f:WN) (e:Nat):WN:={f with top:=e}
structure GI (i:WId) (f:WN) (ao wo so:Nat) (ss:List Nat) (l:List Th) (T₀ T:TH):Prop where
 ag:T[ao]?=some (.ag,.di (agL l))
 wh:T[wo]?=some (.wh,.di (whL l))
 w:T[i.w]?=some (.w,(i.nw wo).obj (f.tp (endOf l)))
 so:T[so]?=some (.tmp 831,.di (seenL ss))
 c:Chg (ksX [.w]) T₀ T
theorem ser_new {l:List Th} {t:Th} {g:Th→V} (h:∀ u∈l,u.ser<t.ser):∀ p∈l.map (fun u=>((u.ser:Int),g u)),p.1≠(t.ser:Int):=fun p hp e=>by
 obtain⟨u,hu,rfl⟩:=List.mem_map.mp hp
 exact Nat.ne_of_lt (h u hu) (Int.ofNat.inj e)
theorem ag_new {l:List Th} {t:Th} (h:∀ u∈l,u.ser<t.ser):∀ p∈agL l,p.1≠(t.ser:Int):=ser_new (g:=fun t=>.int t.age) h
theorem wh_new {l:List Th} {t:Th} (h:∀ u∈l,u.ser<t.ser):∀ p∈whL l,p.1≠(t.ser:Int):=ser_new (g:=fun t=>.int t.addr) h
section
variable {n gen ao wo so lj A:Nat} {i:WId} {f:WN} {h:Hid} {hf:Hn} {ts l:List Th} {ss:List Nat} {T₀ T:TH} {t:Th} {x:O} {nt:V}
set_option maxHeartbeats 1000000 in
theorem gone_put {Q:PS'} (W:HW i f h hf ts T₀) (D:GI i f ao wo so ss l T₀ T) (na:T₀[ao]?=none) (nw:T₀[wo]?=none) (ho:T[lj]?=some (.tmp 851,x)) (ht:t∈ts) (hlt:∀ u∈l,u.ser<t.ser) (hl:l.length≤5000)
  (k:∀ T',GI i f ao wo so ss (l++[t.re (endOf l) A]) T₀ T'→T'[lj]?=some (.tmp 851,x)→Q (none,[some (.obj i.w),some (.int gen),some (.obj so),some nt,some (.obj ao),some (.int (t.ser:Nat)),some (.int A)]) T') :
  IdxPut T ao (.int A) (fun T₁=>SV (CN n) [some (.obj i.w),some (.int gen),some (.obj so),some nt,some (.obj ao),some (.int (t.ser:Nat)),some (.int A)] [.assign (.idx (.wk (.loc 0) 6) (.loc 5)) (.wk (.loc 0) 7),.assign (.wk (.loc 0) 7) (.bin .add (.bin .add (.wk (.loc 0) 7) (.lit (.int 2))) (.bf .len (.idx (.idx (.wk (.loc 0) 4) (.loc 5)) (.lit (.int 1)))))] T₁ Q) (.int (t.ser:Nat)):=by
 refine IdxPut.di D.ag (lmL hl) ?_
 rw [dput_new (ag_new hlt)]
 refine PutY.intro fun T₈ h₈ c₈=>?_
 have hw:=c₈.otherK D.w h₈ (by decide)
 have hwo:=c₈.otherK D.wh h₈ (by decide)
 have hso:=c₈.otherK D.so h₈ (by decide)
 have ho:=c₈.otherK ho h₈ (by decide)
 have cc:Chg (ksX [.w]) T₀ T₈:=c₈.fresh D.c na
 have h₈:T₈[ao]?=some (.ag,.di (agL (l++[t.re (endOf l) A]))):=by unfold agL;rw [List.map_append];exact h₈
 clear c₈
 k_ownIn
 refine IdxPut.di hwo (lmL hl) ?_
 rw [dput_new (wh_new hlt)]
 refine PutY.intro fun T₉ h₉ c₉=>?_
 have hw:=c₉.otherK hw h₉ (by decide)
 have h₈:=c₉.otherK h₈ h₉ (by decide)
 have hso:=c₉.otherK hso h₉ (by decide)
 have ho:=c₉.otherK ho h₉ (by decide)
 have cc:Chg (ksX [.w]) T₀ T₉:=c₉.fresh cc nw
 have h₉:T₉[wo]?=some (.wh,.di (whL (l++[t.re (endOf l) A]))):=by unfold whL;rw [List.map_append];exact h₉
 obtain⟨wl,hwt,hw1,hw2,hw3⟩:=W.bk.wt
 have hwt:=cc.get hwt (nk (by decide))
 have hpid:=cc.get (W.bk.pid t ht) (nk (by decide))
 clear c₉ hwo
 k_ownIn
 refine IdxY.di hwt (hw3 t ht) ?_
 k_ownIn
 refine LenY.map (n:=1000) hpid (Nat.le_trans (W.good.len t ht) (Nat.le_of_ble_eq_true rfl)) ?_
 k_ownIn
 rename_i T₁₀ h₁₀ c₁₀
 refine k T₁₀ ⟨c₁₀.otherK h₈ h₁₀ (by decide),c₁₀.otherK h₉ h₁₀ (by decide),?_,c₁₀.otherK hso h₁₀ (by decide),c₁₀.back cc (side_kind W.bk.w (by decide))⟩ (c₁₀.otherK ho h₁₀ (by decide))
 rw [h₁₀,endOf_snoc]
 exact congrArg (fun m:Nat=>some (K.w,(i.nw wo).obj (f.tp m))) (Nat.add_assoc (endOf l) 2 t.specs.length)
noncomputable def stayP (gen:Nat) (ss:List Nat) (t:Th):Bool:=decide (gen<t.age)||decide (t.ser∈ss)
theorem nxt_in {gen:Nat} {l:List Th} {g:Nat} {u:Th} (h:u∈nxt gen g l):∃ v∈l,v.ser=u.ser:=by
 have h1:u.ser∈(nxt gen g l).map Th.ser:=List.mem_map_of_mem h
 rw [nxt_ser] at h1
 exact List.mem_map.mp h1
theorem nxt_go {gen:Nat} {ss:List Nat} {pre:List Th} (hA:A=bumpA gen t.age) (hp:stayP gen ss t=true):nxt gen 16 ((pre++[t]).filter (stayP gen ss))=nxt gen 16 (pre.filter (stayP gen ss))++[t.re (endOf (nxt gen 16 (pre.filter (stayP gen ss)))) A]:=by
 rw [List.filter_append,List.filter_cons_of_pos hp,List.filter_nil,nxt_snoc,hA]
 unfold endOf
 rw [nxt_size];rfl
noncomputable def goneB:List S:=match fd_law_gone.body.drop 6 with
 | .forI _ _ b::_=>b
 | _=>[]
set_option maxHeartbeats 1000000 in
theorem gone_turn {pre post:List Th} {Q:PS'} {y:Option V} (W:HW i f h hf ts T₀) (e:pre++t::post=ts) (D:GI i f ao wo so ss (nxt gen 16 (pre.filter (stayP gen ss))) T₀ T) (na:T₀[ao]?=none) (nw:T₀[wo]?=none) (ho:T[lj]?=some (.tmp 851,x)) (htl:ts.length≤5000)
  (k:∀ y T',GI i f ao wo so ss (nxt gen 16 ((pre++[t]).filter (stayP gen ss))) T₀ T'→T'[lj]?=some (.tmp 851,x)→Q (none,[some (.obj i.w),some (.int gen),some (.obj so),some nt,some (.obj ao),some (.int (t.ser:Nat)),y]) T') :
  SV (CN n) [some (.obj i.w),some (.int gen),some (.obj so),some nt,some (.obj ao),some (.int (t.ser:Nat)),y] goneB T Q:=by
 unfold goneB fd_law_gone
 dsimp only [List.drop]
 have ht:t∈ts:=e▸List.mem_append_right _ (.head _)
 have hag:=D.c.get W.bk.ag (nk (by decide))
 have hww:=D.w
 have hso:=D.so
 have hnl:(nxt gen 16 (pre.filter (stayP gen ss))).length≤5000:=by
  rw [nxt_length]
  exact Nat.le_trans (List.length_filter_le ..) (Nat.le_trans (by rw [←e,List.length_append];exact Nat.le_add_right _ _) htl)
 have hlt:∀ u∈nxt gen 16 (pre.filter (stayP gen ss)),u.ser<t.ser:=fun u hu=>by
  obtain⟨v,hv,ev⟩:=nxt_in hu
  have hp:=W.good.ser
  rw [←e,List.pairwise_append] at hp
  exact ev▸hp.2.2 v (List.mem_filter.mp hv).1 t (.head _)
 have go:∀ {A:Nat} {T':TH},A=bumpA gen t.age→stayP gen ss t=true→GI i f ao wo so ss (nxt gen 16 (pre.filter (stayP gen ss))++[t.re (endOf (nxt gen 16 (pre.filter (stayP gen ss)))) A]) T₀ T'→T'[lj]?=some (.tmp 851,x)→Q (none,[some (.obj i.w),some (.int gen),some (.obj so),some nt,some (.obj ao),some (.int (t.ser:Nat)),some (.int A)]) T':=fun hA hp D ho=>k _ _ (nxt_go hA hp▸D) ho
 k_ownIn
 refine IdxY.di hag (dget_ser (sers_of W.good.sers) (g:=fun t=>V.int t.age) ht) ?_
 by_cases q1:gen<t.age
 ·have hp:stayP gen ss t=true:=by unfold stayP;rw [decide_eq_true q1];rfl
  k_ownIn
  exact gone_put W D na nw ho ht hlt hnl fun T'=>go (by unfold bumpA;rw [if_pos q1]) hp
 ·k_ownIn
  refine CmpY.mem_di hso ?_
  rw [seen_get]
  by_cases q2:t.ser∈ss
  ·have hp:stayP gen ss t=true:=by unfold stayP;rw [decide_eq_true q2,Bool.or_true]
   rw [decide_eq_true q2]
   by_cases q3:t.age<2
   ·k_ownIn
    exact gone_put W D na nw ho ht hlt hnl fun T'=>go (by unfold bumpA;rw [if_neg q1,if_pos q3]) hp
   ·k_ownIn
    exact gone_put W D na nw ho ht hlt hnl fun T'=>go (by unfold bumpA;rw [if_neg q1,if_neg q3]) hp
  ·have hp:stayP gen ss t=false:=by unfold stayP;rw [decide_eq_false q1,decide_eq_false q2];rfl
   rw [decide_eq_false q2]
   k_ownIn
   refine k _ T ?_ ho
   rw [List.filter_append,List.filter_cons_of_neg (fun e=>Bool.false_ne_true (hp.symm.trans e)),List.filter_nil,List.append_nil]
   exact D
end
section
variable {n gen a b ao wo so:Nat} {i:WId} {f:WN} {mi:MId} {hd:V} {g:MG} {h:Hid} {hf:Hn} {os rs:List Th} {ss:List Nat} {cells:List Ce} {ex:List Nat} {T₀ T:TH} {x y:Option V}
theorem gone_fin (p:Packed 16 (os++rs)) (ho:∀ t∈os,gen<t.age) (hr:∀ t∈rs,t.age≤gen):nxt gen 16 ((os++rs).filter (stayP gen ss))=nextL gen ((os++rs).filter fun t=>decide (t.ser∈ss)) os rs:=by
 rw [←nxt_kept p ho,←filter_stay ho hr]
 refine congrArg _ (List.filter_congr fun t ht=>?_)
 unfold stayP inY
 by_cases q:gen<t.age
 ·rw [decide_eq_true q,Bool.true_or,Bool.true_or]
 ·rw [decide_eq_false q,Bool.false_or,Bool.false_or,decide_eq_true (Nat.le_of_not_lt q),Bool.true_and]
  exact decide_eq_decide.mpr ⟨fun h=>List.mem_filter.mpr ⟨ht,decide_eq_true h⟩,fun h=>of_decide_eq_true (List.mem_filter.mp h).2⟩
set_option maxHeartbeats 2000000 in
theorem gone_end {Q:V→TH→Prop} (W:HW i f h hf (os++rs) T₀) (C:CL i (os++rs) cells T₀) (M:MW i.m mi h.hp hd g T₀) (H:hd=.none∨∃ hdo hr,hd=.obj hdo∧Hds hdo hr T₀) (R:Rts mi g a b h cells ex T₀) (hcl:cells.length≤2000) (htl:(os++rs).length≤5000) (hos:∀ t∈os,gen<t.age) (hrs:∀ t∈rs,t.age≤gen)
  (hss:∀ t∈os++rs,t.ser∈ss ↔ Reach (os++rs) (cells.map Ce.specs) t) (D:GI i f ao wo so ss (nxt gen 16 ((os++rs).filter (stayP gen ss))) T₀ T)
  (k:∀ i' f' h' hf' ts' hdo hr' T',HW i' f' h' hf' ts' T'→CL i' ts' cells T'→MW i.m mi h'.hp (.obj hdo) g T'→Hds hdo hr' T'→Rts mi g a b h' cells ex T'→h'.hp=h.hp→h'.rdy=h.rdy→(∃ ag wh,i'={i with ag:=ag,wh:=wh})→(∃ top,f'={f with top:=top})→Chg goneX T₀ T'→Q (.bool true) T') :
  SV (CN (n+10)) [some (.obj i.w),some (.int gen),some (.obj so),some (.int ((os++rs).length:Nat)),some (.obj ao),x,y] (fd_law_gone.body.drop 7) T fun r T=>Q (r.1.getD .none) T:=by
 have G:=W.good
 rw [gone_fin G.packed hos hrs] at D
 have hin:∀ t∈os++rs,t.age≤gen→(t∈(os++rs).filter (fun t=>decide (t.ser∈ss)) ↔ Reach (os++rs) (cells.map Ce.specs) t):=fun t ht _ =>
  ⟨fun h=>(hss t ht).mp (of_decide_eq_true (List.mem_filter.mp h).2),fun h=>List.mem_filter.mpr ⟨ht,decide_eq_true ((hss t ht).mpr h)⟩⟩
 generalize (os++rs).filter (fun t=>decide (t.ser∈ss))=sn at D hin
 have hww:=D.w
 have hnl:(nextL gen sn os rs).length≤5000:=Nat.le_trans (next_length▸kept_le hos hrs) htl
 k_ownIn
 rename_i T₈ h₈ c₈
 have cc₈:Chg (ksX [.w]) T₀ T₈:=c₈.back D.c (side_kind W.bk.w (by decide))
 have a₈:=c₈.otherK D.ag h₈ (by decide)
 have w₈:=c₈.otherK D.wh h₈ (by decide)
 have hh₈:T₈[i.w]?=some (.w,(i.two ao wo).obj (f.tp (endOf (nextL gen sn os rs)))):=h₈
 clear c₈ h₈ hww D
 have q₈:OffP [2,3,4,5,6,7,8,9,10,11,12,13,14,16,17,18,19,20,24,27,28,29,30,31,32] T₀ T₈:=.ks cc₈
 refine sp_collfor (i:=i) (sn:=sn) (ex:=ex) (W.hb.keep cc₈ (fun _=>⟨nk (by decide),nk (by decide),nk (by decide),nk (by decide),nk (by decide),nk (by decide)⟩) (nk (by decide))) (fun t ht=>q₈.g (W.sl t ht) rfl) G hos hrs (Nat.le_trans htl (Nat.le_of_ble_eq_true rfl)) (M.chg cc₈ fun _=>⟨nk (by decide),nk (by decide),nk (by decide),nk (by decide),nk (by decide),nk (by decide),nk (by decide),nk (by decide)⟩) (H.imp id fun ⟨hdo,hr,e,H⟩=>⟨hdo,hr,e,H.chg cc₈ fun _=>⟨nk (by decide),nk (by decide)⟩⟩)
  ⟨R.perm,fun r hr=>q₈.g (R.exs r hr) rfl,R.nd,R.rdy,R.st,R.cl,R.exl⟩ (fun c hc=>q₈.g (C.row c hc) rfl) C.ok C.len hin fun h' hf' hdo hr' T₁₀ g1 g2 g3 Kp hb' S' row' ok' M' H' exs' c₁₀=>?_
 have p₁₀:OffP [1,25,26,24,27,31,32] T₈ T₁₀:=.ks c₁₀
 have q₁₀:OffP [24,27,31,32] T₀ T₁₀:=(OffP.ks cc₈).tr (.ks c₁₀)
 have cc₁₀:Chg goneX T₀ T₁₀:=c₁₀.back (cc₈.weaken fun _ k' q=>List.mem_singleton.mp q▸.head _) (side_ks (by decide))
 have hw₁₀:=p₁₀.g hh₈ rfl
 have a₁₀:=p₁₀.g a₈ rfl
 obtain⟨wl,hwt,hw1,hw2,hw3⟩:=W.bk.wt
 have W':HW (i.two ao wo) (f.tp (endOf (nextL gen sn os rs))) h' hf' (nextL gen sn os rs) T₁₀:=by
  refine⟨hb',S',Kp.next G,⟨hw₁₀,a₁₀,p₁₀.g w₈ rfl,⟨wl,q₁₀.g hwt rfl,hw1,hw2,fun t ht=>?_⟩,fun t ht=>?_,rfl,fun t ht=>?_⟩,g3.trans W.made,_,M'.m,?_⟩
  ·obtain⟨v,hv,e1,e2,e3,e4,_,_,e5⟩:=next_image G.packed hos ht
   rw [e1,e4,e5];exact hw3 v (kept_mem hv)
  ·obtain⟨v,hv,e1,e2,e3,e4,_,_,e5⟩:=next_image G.packed hos ht
   rw [e2,e5];exact q₁₀.g (W.bk.pid v (kept_mem hv)) rfl
  ·obtain⟨v,hv,e1,_⟩:=next_image G.packed hos ht
   rw [e1];exact W.bk.made v (kept_mem hv)
  ·rw [g1];rfl
 have C':CL (i.two ao wo) (nextL gen sn os rs) cells T₁₀:=⟨q₁₀.g C.ce rfl,row',fun c hc=>q₁₀.g (C.spec c hc) rfl,ok',C.rn,C.pn,C.len⟩
 have M'':MW (i.two ao wo).m mi h'.hp (.obj hdo) g T₁₀:=g1▸M'
 clear w₈ a₈ hh₈ q₈ cc₈ hb' S' row' ok' M' hwt hw1 hw2 hw3 p₁₀ q₁₀ c₁₀ hin
 k_ownIn
 refine LenY.dim a₁₀ hnl ?_
 k_ownIn
 k_ownIn
 refine sp_same (i:=i.two ao wo) (ts:=nextL gen sn os rs) W' C' M'' (Nat.le_trans hcl (Nat.le_of_ble_eq_true rfl)) hnl fun T₁₁ c₁₁=>?_
 exact k _ _ h' hf' _ hdo hr' T₁₁ (W'.chg0 c₁₁) (C'.chg0 c₁₁) (M''.chg0 c₁₁) (H'.chg c₁₁ fun _=>⟨id,id⟩) ⟨R.perm,fun r hr=>c₁₁.keep (exs' r hr),R.nd,g2▸R.rdy,R.st,R.cl,R.exl⟩ g1 g2 ⟨ao,wo,rfl⟩ ⟨_,rfl⟩ (c₁₁.back cc₁₀ side_no)
set_option maxHeartbeats 2000000 in
theorem sp_gone {ts:List Th} {T:TH} {Q:V→TH→Prop} (W:HW i f h hf ts T) (C:CL i ts cells T) (M:MW i.m mi h.hp hd g T) (H:hd=.none∨∃ hdo hr,hd=.obj hdo∧Hds hdo hr T) (R:Rts mi g a b h cells ex T)
  (hcl:cells.length≤2000) (htl:ts.length≤5000) (hgen:gen≤2)
  (k:∀ i' f' h' hf' ts' hdo hr' T',HW i' f' h' hf' ts' T'→CL i' ts' cells T'→MW i.m mi h'.hp (.obj hdo) g T'→Hds hdo hr' T'→Rts mi g a b h' cells ex T'→h'.hp=h.hp→h'.rdy=h.rdy→(∃ ag wh,i'={i with ag:=ag,wh:=wh})→(∃ top,f'={f with top:=top})→Chg goneX T T'→Q (.bool true) T'):CallY (CN (n+11)) 85 [.obj i.w,.int gen] T Q:=by
 have hw:=W.bk.w
 have G:=W.good
 refine call_fn (fd:=fd_law_gone) (by rfl) (by rfl) ?_
 refine (?_:SV _ [some (.obj i.w),some (.int gen),none,none,none,none,none] _ _ _)
 k_ownIn
 refine sp_named W.bk.w C M R fun T₁ c₁=>?_
 have hw₁:=c₁.keep hw
 k_ownIn
 refine sp_reached (W.chg0 c₁) (C.chg0 c₁) hcl htl fun so ss T₂ hs₂ hss c₂=>?_
 have c:=c₁.tr c₂
 have hw₂:=c.keep hw
 have hag₂:=c.keep W.bk.ag
 clear c₁ c₂ hw₁
 k_ownIn
 refine LenY.dim hag₂ htl ?_
 k_ownIn
 refine AnyK.mk .ag (NewY.intro fun ao T₃ hn₃ h₃ c₃=>?_)
 have hnao:T[ao]?=none:=none_back hn₃ (c.weaken fun _ _ _=>trivial)
 have c:=c.tr c₃
 have hw₃:=c₃.keep hw₂
 k_ownIn
 refine AnyK.mk .wh (NewY.intro fun wo T₄ hn₄ h₄ c₄=>?_)
 have hnwo:T[wo]?=none:=none_back hn₄ (c.weaken fun _ _ _=>trivial)
 have c:=c.tr c₄
 have hw₄:=c₄.keep hw₃
 have h₃:=c₄.keep h₃
 have hs₂:=c₄.keep (c₃.keep hs₂)
 clear c₃ c₄ hag₂ hw₂ hw₃ hn₃ hn₄
 k_ownIn
 rename_i _ _ _ T₆ h₆ c₆
 have D:GI i f ao wo so ss [] T T₆:=⟨c₆.otherK h₃ h₆ (by decide),c₆.otherK h₄ h₆ (by decide),h₆,c₆.otherK hs₂ h₆ (by decide),c₆.back (c.weaken fun _ _ q=>q.elim) (side_kind hw (by decide))⟩
 have hag₆:=D.c.get W.bk.ag (nk (by decide))
 have hw₆:=D.w
 have e1:(List.map (fun x:Int×V=>x.fst) (List.map (fun t:Th=>((t.ser:Int),V.int t.age)) ts))=ts.map fun t=>(t.ser:Int):=by rw [List.map_map];rfl
 have asc:(ts.map fun t=>(t.ser:Int)).Pairwise (·≤·):=by
  rw [List.pairwise_map];exact G.ser.imp fun h=>Int.ofNat_le.mpr (Nat.le_of_lt h)
 clear h₃ h₄ hs₂ c c₆ h₆ hw₄
 k_ownIn
 unfold kSortB
 rw [e1]
 refine⟨⟨by rw [List.length_map];exact Nat.le_trans htl (Nat.le_of_ble_eq_true rfl),.inr asc⟩,AnyK.mk (.tmp 851) (NewY.intro fun lj T₇ hn₇ h₇ c₇=>?_)⟩
 rw [sort_asc asc,List.map_map] at h₇
 refine ForY.split (G:=Option V×Option V) (fun g=>[some (.obj i.w),some (.int gen),some (.obj so),some (.int (ts.length:Nat)),some (.obj ao),g.1,g.2]) (fun pre _ _ T'=>GI i f ao wo so ss (nxt gen 16 (pre.filter (stayP gen ss))) T T') (enc:=V.int ∘ fun t:Th=>(t.ser:Int)) h₇ (_,_) ⟨c₇.keep D.ag,c₇.keep D.wh,c₇.keep D.w,c₇.keep D.so,c₇.back D.c side_no⟩ ?_ ?_
 ·intro Q' pre t post g_;refine pp2 g_ fun x y=>?_;rintro T' e D ho q _
  exact gone_turn W e D hnao hnwo ho htl fun y T' D ho=>q (_,y) T' D ho
 ·intro g_;refine pp2 g_ fun x y=>?_;rintro T' D _
  obtain⟨os,rs,hts,hos,hrs⟩:=G.split gen
  subst hts
  exact gone_end W C M H R hcl htl hos hrs hss D k
end
set_option genInjectivity true
inductive Tg where
 | tx|st|fa|un
 | ch (m:Nat)
 | fr (m:Nat)
 | he (m:Nat)
 deriving DecidableEq
noncomputable def Tg.s:Tg→Str
 | .tx=>Str.ofString "texts"
 | .st=>Str.ofString "statics"
 | .fa=>Str.ofString "fail"
 | .un=>Str.ofString "unhandled"
 | .ch m=>Str.ofString "chase "++Str.ofString (toString (m:Int))
 | .fr m=>Str.ofString "frame "++Str.ofString (toString (m:Int))
 | .he m=>Str.ofString "held "++Str.ofString (toString (m:Int))
noncomputable def Tg.Ok:Tg→Prop
 | .ch m|.fr m|.he m=>m<64
 | _=>True
noncomputable def tgAll:List Tg:=[.tx,.st,.fa,.un]++(List.range 64).map .ch++(List.range 64).map .fr++(List.range 64).map .he
noncomputable def tgNum (l:List Nat):Nat:=l.foldl (fun a c=>if 48≤c∧c≤57 then a*10+(c-48) else a) 0
noncomputable def tgOf (x:Str):Tg:=match x.cps.toList with
 | 116::_=>.tx
 | 115::_=>.st
 | 117::_=>.un
 | 99::r=>.ch (tgNum r)
 | 104::r=>.he (tgNum r)
 | _::114::r=>.fr (tgNum r)
 | _=>.fa
theorem tg_of:∀ t∈tgAll,tgOf t.s=t:=by decide +kernel
theorem Tg.Ok.mem {t:Tg} (h:t.Ok):t∈tgAll:=by
 unfold tgAll
 cases t with
 | ch m|fr m|he m=>simp;exact h
 | _=>simp
theorem Tg.inj {a b:Tg} (ha:a.Ok) (hb:b.Ok) (e:a.s=b.s):a=b:=by
 rw [←tg_of a ha.mem,←tg_of b hb.mem,e]
set_option genInjectivity false
noncomputable def rowsOf (cells:List Ce) (t:Tg):List Nat:=(cells.filter fun c=>decide (c.tag=t.s)).map Ce.rid
theorem rows_snoc {cells:List Ce} {c:Ce} {t t':Tg} (h:t.Ok) (h':t'.Ok) (e:c.tag=t.s):rowsOf (cells++[c]) t'=rowsOf cells t'++if t=t' then [c.rid] else []:=by
 unfold rowsOf
 rw [List.filter_append,List.map_append]
 congr 1
 by_cases q:t=t'
 ·subst q;simp [e]
 ·have:¬ c.tag=t'.s:=fun q'=>q (Tg.inj h h' (e.symm.trans q'))
  simp [this,q]
noncomputable def dropC (cells:List Ce) (t:Tg):List Ce:=cells.filter fun c=>!decide (c.tag=t.s)
theorem rows_drop {cells:List Ce} {t t':Tg} (h:t.Ok) (h':t'.Ok):rowsOf (dropC cells t) t'=if t=t' then [] else rowsOf cells t':=by
 unfold rowsOf dropC
 rw [List.filter_filter]
 by_cases q:t=t'
 ·subst q
  rw [if_pos rfl,List.filter_eq_nil_iff.mpr (fun c _=>by simp)];rfl
 ·rw [if_neg q]
  congr 1
  refine List.filter_congr fun c _=>?_
  by_cases q':c.tag=t'.s
  ·have:¬ c.tag=t.s:=fun q''=>q (Tg.inj h h' (q''.symm.trans q'))
   have h2:¬ t'.s=t.s:=fun q''=>this (q'.trans q'')
   simp [q',h2]
  ·simp [q']
theorem rows_perm {cells:List Ce} {t:Tg}:(cells.map Ce.rid).Perm (rowsOf cells t++(dropC cells t).map Ce.rid):=by
 unfold rowsOf dropC
 rw [←List.map_append]
 exact ((List.filter_append_perm (fun c:Ce=>decide (c.tag=t.s)) cells).symm).map _
structure KTp where
 ro:Nat
 ix:Nat
 de:Nat
 we:Nat
 op:Nat
 rl:List V
 il:List (NKey×V)
 dl:List V
 wl:List V
 ol:List V
noncomputable def KTp.F (p:KTp) (kt:Nat):List (Nat×K×O):=[(kt,.kt,.inst 2 [.obj p.ro,.obj p.ix,.obj p.de,.obj p.we,.obj p.op]),(p.ro,.ktl,.list p.rl),(p.ix,.ktl,.dt p.il),(p.de,.ktl,.list p.dl),(p.we,.ktl,.list p.wl),(p.op,.ktl,.list p.ol)]
structure KTp.Len (p:KTp) (n:Nat):Prop where
 r:p.rl.length=n
 i:p.il.length=n
 d:p.dl.length=n
 w:p.wl.length=n
 o:p.ol.length=n
structure KTL (kt len x0:Nat) (T:TH):Prop where
 ex:∃ p:KTp,FL (p.F kt) T∧p.Len len∧∀ sx x:Nat,x0≤x→dget p.il ((sx:Int),(x:Int),true)=none
noncomputable abbrev KTW (kt nf:Nat) (T:TH):Prop:=KTL kt (20+nf) (70+nf) T
theorem KTL.off {kt len x0:Nat} {T T':TH} {p:List Nat} (h:KTL kt len x0 T) (q:OffP p T T') (hp:(kin p .kt&&kin p .ktl)=true:=by rfl):KTL kt len x0 T':=by
 have hp:=Bool.and_eq_true_iff.mp hp
 exact h.ex.elim fun a h=>⟨a,h.1.off q (by show (kin p .kt&&(kin p .ktl&&(kin p .ktl&&(kin p .ktl&&(kin p .ktl&&(kin p .ktl&&true))))))=true;rw [hp.1,hp.2];rfl),h.2⟩
theorem KTL.mono {kt len x0 x1:Nat} {T:TH} (h:KTL kt len x0 T) (hx:x0≤x1):KTL kt len x1 T:=h.ex.elim fun a h=>⟨a,h.1,h.2.1,fun sx x q=>h.2.2 sx x (Nat.le_trans hx q)⟩
noncomputable def txD (tx:List Nat):List (Int×V):=tx.zipIdx.map fun p=>((p.1:Int),.int (p.2:Int))
noncomputable def txS (tx:List Nat):List (Str×V):=tx.zipIdx.map fun p=>(words p.1,.int (p.2:Int))
structure Gs where
 i:WId
 f:WN
 mi:MId
 g:MG
 h:Hid
 hf:Hn
 ts:List Th
 cells:List Ce
 ex:List Nat
 pend:List Nat
 ns:List Int
 cm:List (Nat×Chs)
 tx:List Nat
noncomputable abbrev Gs.nu (s:Gs) (f:WN) (hf:Hn) (ts:List Th):Gs:={s with f:=f,hf:=hf,ts:=ts}
noncomputable abbrev Gs.ad (s:Gs) (f:WN) (hf:Hn) (ts:List Th) (c:Ce):Gs:={s with f:=f,hf:=hf,ts:=ts,cells:=s.cells++[c],ex:=s.ex.erase c.rid}
noncomputable abbrev Gs.mo (s:Gs) (g:MG) (pend rs:List Nat):Gs:={s with g:=g,pend:=pend,ex:=s.ex++rs}
noncomputable abbrev Gs.cl (s:Gs) (g:MG) (c:Ce) (cm:List (Nat×Chs)):Gs:={s with g:=g,cells:=s.cells++[c],cm:=cm}
noncomputable abbrev Gs.fm (s:Gs) (f:Fr) (pend:List Nat):Gs:={s with g:={s.g with frames:=s.g.frames++[f]},pend:=pend}
noncomputable abbrev Gs.dr (s:Gs) (ce:Nat) (g:MG) (tt:Tg) (cm:List (Nat×Chs)):Gs:={s with i:={s.i with ce:=ce},g:=g,cells:=dropC s.cells tt,cm:=cm}
noncomputable abbrev Gs.st (s:Gs) (f:WN) (hf:Hn) (ts:List Th) (j:Nat) (c:Ce) (specs:List Spec) (tx:List Nat):Gs:={s with f:=f,hf:=hf,ts:=ts,cells:=s.cells.set j {c with specs:=specs},tx:=tx}
noncomputable def rootsW (mi:MId) (g:MG):List Nat:=g.frames.flatMap Fr.rows++(g.statics.map (·.2)++(g.chases.map Chs.rid++([mi.iv]++(g.held++(g.fails.map (·.2)++[mi.un])))))
noncomputable def Pl (i:WId) (mi:MId) (hp:Nat) (g:MG) (ns:List Int) (cm:List (Nat×Chs)) (tx:List Nat) (hd:V):List (Nat×K×O) :=
 [(i.m,.m,mi.obj hp hd),(mi.frs,.frs,.list (g.frames.map fun f=>.obj f.id)),(mi.chs,.chs,.list (g.chases.map fun c=>.obj c.id)),(mi.sts,.sts,.di (diOf g.statics)),(mi.fas,.fas,.di (diOf g.fails)),(mi.hes,.hes,.list (g.held.map .obj)),
  (mi.sw,.oth,.inst 8 []),(i.scr,.scr,.list (ns.map .int)),(i.fl,.fl,.list (cm.map fun p=>.str (Tg.ch p.1).s)),(i.tx,.tx,.di (txD tx)),(mi.inn,.inn,.ds (txS tx))]
noncomputable abbrev pasK:List Nat:=[2,4,6,7,8,9,10,16,17,18,19,20,21,22,23,28,33]
structure HdOk (hd:V) (T:TH):Prop where
 h:hd=.none∨∃ hdo hr,hd=.obj hdo∧Hds hdo hr T
structure Hq (L:V→List (Nat×K×O)) (fr:List Fr) (ch:List Chs) (kt nf:Nat) (T:TH):Prop where
 P:∃ hd,AllK (L hd) T∧HdOk hd T
 fr:∀ f∈fr,T[f.id]?=some (.fr,f.obj)
 ch:∀ c∈ch,T[c.id]?=some (.ch,c.obj)
 kt:KTW kt nf T
section
variable {p:List Nat} {T T':TH} {L:V→List (Nat×K×O)} {fr fr':List Fr} {ch ch':List Chs} {kt nf:Nat}
theorem HdOk.off {hd:V} (h:HdOk hd T) (q:OffP p T T') (hp:(kin p .hd&&kin p .hr)=true:=by rfl):HdOk hd T':=by
 have hp:=Bool.and_eq_true_iff.mp hp
 exact⟨h.h.imp_right fun ⟨a,b,e,H⟩=>⟨a,b,e,q.g H.hd hp.1,q.g H.hr hp.2⟩⟩
theorem Hq.off (H:Hq L fr ch kt nf T) (q:OffP pasK T T') (h:∀ hd,(L hd).all (fun x=>kin pasK x.2.1)=true:=by exact fun _=>rfl):Hq L fr ch kt nf T' :=
 ⟨H.P.elim fun hd a=>⟨hd,a.1.off q (h hd),a.2.off q⟩,fun f hf=>q.g (H.fr f hf) rfl,fun f hf=>q.g (H.ch f hf) rfl,H.kt.off q⟩
theorem Hq.put (H:Hq L fr ch kt nf T) (j:Nat) {i:Nat} {k:K} {ob:O} (c:Chg (oneX i) T T') (h':T'[i]?=some (k,ob)) (h:∀ hd,offK j k.n (L hd)=true:=by exact fun _=>rfl) (hk:kin [4,6,7,8,28,33] k=false:=by rfl):Hq (fun hd=>(L hd).set j (i,k,ob)) fr ch kt nf T' :=
 have q:OffP [4,6,7,8,28,33] T T':=OffP.one c h' hk
 ⟨H.P.elim fun hd a=>⟨hd,a.1.put j c h' (h hd),a.2.off q⟩,fun f hf=>q.g (H.fr f hf) rfl,fun f hf=>q.g (H.ch f hf) rfl,H.kt.off q⟩
theorem Hq.fam (H:Hq L fr ch kt nf T) (hf:∀ f∈fr',f∈fr∨T[f.id]?=some (.fr,f.obj)) (hc:∀ f∈ch',f∈ch∨T[f.id]?=some (.ch,f.obj)):Hq L fr' ch' kt nf T :=
 ⟨H.P,fun f h=>(hf f h).elim (H.fr f) id,fun f h=>(hc f h).elim (H.ch f) id,H.kt⟩
end
structure Num (k made at_ cnt cel fr ch fa he:Nat):Prop where
 made:made≤30*k
 at_:at_≤k
 cnt:3*cnt≤k
 cel:cel≤8*k
 fr:fr≤k
 ch:ch≤k
 fa:fa≤k
 he:3*he≤k
structure Bd (made at_ cnt cel fr ch fa he:Nat):Prop where
 made:made≤6000
 at_:at_≤200
 cnt:cnt≤60
 cel:cel≤1600
 fr:fr≤200
 ch:ch≤200
 fa:fa≤200
 he:he≤60
section
variable {k made at_ cnt cel fr ch fa he made' at' cnt' cel' fr' ch' fa' he':Nat}
theorem nl {a d:Nat}:a≤a+d:=Nat.le_add_right _ _
theorem upA {a b k d:Nat} (h:b≤a+d) (q:a≤k):b≤k+d:=Nat.le_trans h (Nat.add_le_add_right q d)
theorem upM {c a b k d:Nat} (h:b≤a+c*d) (q:a≤c*k):b≤c*(k+d):=Nat.mul_add c k d▸upA h q
theorem Num.up (N:Num k made at_ cnt cel fr ch fa he) (d:Nat) (h1:made'≤made+30*d) (h2:at'≤at_+d) (h3:3*cnt'≤3*cnt+d) (h4:cel'≤cel+8*d)
  (h5:fr'≤fr+d) (h6:ch'≤ch+d) (h7:fa'≤fa+d) (h8:3*he'≤3*he+d):Num (k+d) made' at' cnt' cel' fr' ch' fa' he' :=
 ⟨upM h1 N.made,upA h2 N.at_,upA h3 N.cnt,upM h4 N.cel,upA h5 N.fr,upA h6 N.ch,upA h7 N.fa,upA h8 N.he⟩
theorem Num.bd (N:Num k made at_ cnt cel fr ch fa he) (h:k≤180):Bd made at_ cnt cel fr ch fa he :=
 have h':k≤200:=Nat.le_trans h (Nat.le_of_ble_eq_true rfl)
 ⟨Nat.le_trans N.made (Nat.le_trans (Nat.mul_le_mul_left 30 h) (Nat.le_of_ble_eq_true rfl)),Nat.le_trans N.at_ h',Nat.le_of_mul_le_mul_left (Nat.le_trans N.cnt h) (Nat.zero_lt_succ 2),Nat.le_trans N.cel (Nat.mul_le_mul_left 8 h'),Nat.le_trans N.fr h',Nat.le_trans N.ch h',Nat.le_trans N.fa h',Nat.le_of_mul_le_mul_left (Nat.le_trans N.he h) (Nat.zero_lt_succ 2)⟩
end
structure Mem (k:Nat) (s:Gs) (T:TH):Prop where
 W:HW s.i s.f s.h s.hf s.ts T
 C:CL s.i s.ts s.cells T
 H:Hq (Pl s.i s.mi s.h.hp s.g s.ns s.cm s.tx) s.g.frames s.g.chases s.mi.kt s.g.fails.length T
 exs:∀ r∈s.ex,T[r]?=some (.real,.list [])
 perm:(rootsW s.mi s.g++s.pend).Perm (s.cells.map Ce.rid++s.ex)
 nd:(s.cells.map Ce.rid++s.ex).Nodup
 rdy:s.h.rdy∉s.cells.map Ce.rid++s.ex
 nsl:s.ns.length≤16
 txn:s.tx.Nodup∧∀ n∈s.tx,n≤2
 fks:s.g.fails.map (·.1)=(List.range s.g.fails.length).map fun j=>((20+j:Nat):Int)
 N:Num k s.f.made s.f.at_ s.f.count s.cells.length s.g.frames.length s.g.chases.length s.g.fails.length s.g.held.length
 kl:k≤180
theorem CL.off {i:WId} {ts ts':List Th} {cells:List Ce} {T T':TH} (C:CL i ts cells T) (g:Grow ts ts') (q:OffP [27,29,32] T T'):CL i ts' cells T' :=
 ⟨q.g C.ce rfl,fun x hx=>by rw [List.map_congr_left fun s hs=>g.val s (C.ok x hx s hs)];exact q.g (C.row x hx) rfl,fun x hx=>q.g (C.spec x hx) rfl,fun x hx s hs=>g.ok s (C.ok x hx s hs),C.rn,C.pn,C.len⟩
theorem fk_of {l:List (Int×Nat)} (h:l.map (·.1)=(List.range l.length).map fun j=>((20+j:Nat):Int)):l.Pairwise fun a b=>a.1<b.1:=by
 refine List.Pairwise.of_map (S:=fun a b=>a<b) (·.1) (fun _ _ h=>h) ?_
 rw [h]
 exact (List.pairwise_lt_range.map _ fun a b h=>by omega)
theorem Mem.bd {k:Nat} {s:Gs} {T:TH} (w:Mem k s T):Bd s.f.made s.f.at_ s.f.count s.cells.length s.g.frames.length s.g.chases.length s.g.fails.length s.g.held.length:=w.N.bd w.kl
theorem Mem.M {k:Nat} {s:Gs} {T:TH} (w:Mem k s T):∃ hd,MW s.i.m s.mi s.h.hp hd s.g T∧(hd=.none∨∃ hdo hr,hd=.obj hdo∧Hds hdo hr T) :=
 have b:=w.bd
 w.H.P.elim fun hd a=>⟨hd,⟨a.1.g 0,a.1.g 1,w.H.fr,a.1.g 2,w.H.ch,a.1.g 3,a.1.g 4,a.1.g 5,fk_of w.fks,leL b.fr rfl,leL b.ch rfl,leL b.fa rfl,leL b.he rfl⟩,a.2.h⟩
set_option genInjectivity false
theorem OffP.sub {p p':List Nat} {T T':TH} (q:OffP p T T') (h:p'.all (fun n=>p.contains n)=true:=by rfl):OffP p' T T':=⟨fun hi hp=>q.g hi (List.all_eq_true.mp h _ (List.contains_iff_mem.mp hp))⟩
section
variable {k m r pid:Nat} {s:Gs} {T T':TH} {f':WN} {hf':Hn} {ts':List Th} {tag:Str} {specs:List Spec}
theorem len_snoc {α:Type} {l:List α} {a:α} {d:Nat} (h:Nat.ble 1 d=true:=by rfl):(l++[a]).length≤l.length+d:=by
 rw [List.length_append];exact Nat.add_le_add_left (Nat.le_of_ble_eq_true h) _
theorem NGrow.num {f:WN} {cel cel' fr ch fa he:Nat} (g:NGrow f f' m) (hm:m≤30) (N:Num k f.made f.at_ f.count cel fr ch fa he) (hc:cel'≤cel+8*1):Num (k+1) f'.made f'.at_ f'.count cel' fr ch fa he :=
 N.up 1 (Nat.le_trans g.made (Nat.add_le_add_left hm _)) (g.at_▸Nat.le_add_right _ _) (g.count▸Nat.le_add_right _ _) hc nl nl nl nl
theorem Mem.chg0 (w:Mem k s T) (c:Chg noX T T'):Mem k s T':=⟨w.W.chg0 c,w.C.chg0 c,w.H.off (OffP.no c),fun r hr=>c.keep (w.exs r hr),w.perm,w.nd,w.rdy,w.nsl,w.txn,w.fks,w.N,w.kl⟩
theorem Mem.up (w:Mem k s T) (d:Nat) (h:k+d≤180):Mem (k+d) s T:=⟨w.W,w.C,w.H,w.exs,w.perm,w.nd,w.rdy,w.nsl,w.txn,w.fks,w.N.up d nl nl nl nl nl nl nl nl,h⟩
theorem Mem.fresh (w:Mem k s T) (hk:k+1≤180) (W':HW s.i f' s.h hf' ts' T') (g1:NGrow s.f f' m) (hm:m≤30) (g2:Grow s.ts ts') (c:Chg freshX T T'):Mem (k+1) (s.nu f' hf' ts') T' :=
 ⟨W',w.C.fresh g2 c,w.H.off (OffP.ks c),fun r hr=>c.get (w.exs r hr) (nk (by decide)),w.perm,w.nd,w.rdy,w.nsl,w.txn,w.fks,g1.num hm w.N (Nat.le_add_right _ _),hk⟩
theorem Mem.setw (w:Mem k s T) (d:Nat) (hk:k+d≤180) (h:T'[s.i.w]?=some (.w,s.i.obj f')) (c:Chg (oneX s.i.w) T T') (h1:f'.made=s.f.made) (h2:f'.top=s.f.top) (h3:f'.at_≤s.f.at_+d) (h4:3*f'.count≤3*s.f.count+d):Mem (k+d) (s.nu f' s.hf s.ts) T':=by
 have q:∀ {p:List Nat},kin p .w=false→OffP p T T':=fun hp=>OffP.one c h hp
 have b:=w.W.bk
 have sh:OffP [2,3,5,11,12,13,14,24,25,26,29,30,31] T T':=q rfl
 refine⟨⟨⟨sh.g w.W.hb.hp rfl,sh.g w.W.hb.tl rfl,sh.g w.W.hb.at_ rfl,sh.g w.W.hb.cd rfl,sh.g w.W.hb.fin rfl,sh.g w.W.hb.rdy rfl,fun t ht=>sh.g (w.W.hb.th t ht) rfl⟩,fun t ht=>sh.g (w.W.sl t ht) rfl,w.W.good,⟨h,sh.g b.ag rfl,sh.g b.wh rfl,b.wt.elim fun wl e=>⟨wl,sh.g e.1 rfl,h1▸e.2⟩,fun t ht=>sh.g (b.pid t ht) rfl,h2.trans b.top,h1▸b.made⟩,w.W.made.trans h1.symm,w.W.sh.elim fun fs e=>⟨fs,sh.g e.1 rfl,e.2⟩⟩,
  w.C.off (.refl _) (q rfl),w.H.off (q rfl),fun r hr=>sh.g (w.exs r hr) rfl,w.perm,w.nd,w.rdy,w.nsl,w.txn,w.fks,w.N.up d (h1▸Nat.le_add_right _ _) h3 h4 nl nl nl nl nl,hk⟩
theorem OffP.fill {p:List Nat} {r ce:Nat} {o o':O} (er:T[r]?=some (.real,o)) (ec:T[ce]?=some (.ce,o')) (c:Chg (fillX r ce) T T') (h:([.real,.ce,.hp,.tl,.at_,.w,.ag,.wh,.wt]:List K).all (fun k=>!kin p k)=true:=by rfl):OffP p T T':=⟨fun hi hp=>c.get hi fun q=>kin_not h hp (by
 rcases q with q|q|q
 ·exact .tail _ (.tail _ q)
 ·rw [q] at hi;rw [same_kind hi er];exact .head _
 ·rw [q] at hi;rw [same_kind hi ec];exact .tail _ (.head _))⟩
theorem perm_erase {A B ex:List Nat} {r:Nat} (p:A.Perm (B++ex)) (hr:r∈ex):A.Perm ((B++[r])++ex.erase r):=by
 refine p.trans ?_
 rw [List.append_assoc]
 exact List.Perm.append_left _ (List.perm_cons_erase hr)
theorem Mem.add (w:Mem k s T) (hk:k+1≤180) (hr:r∈s.ex) (W':HW s.i f' s.h hf' ts' T') (C':CL s.i ts' (s.cells++[⟨tag,specs,r,pid⟩]) T') (g1:NGrow s.f f' m) (hm:m≤30) (c:Chg (fillX r s.i.ce) T T') :
  Mem (k+1) (s.ad f' hf' ts' ⟨tag,specs,r,pid⟩) T':=by
 have pe:(s.cells.map Ce.rid++s.ex).Perm (((s.cells++[(⟨tag,specs,r,pid⟩:Ce)]).map Ce.rid)++s.ex.erase r):=by
  rw [List.map_append];exact perm_erase (.refl _) hr
 have hnd:s.ex.Nodup:=(List.nodup_append.mp w.nd).2.1
 refine⟨W',C',w.H.off (OffP.fill (w.exs r hr) w.C.ce c),fun x hx=>?_,w.perm.trans pe,pe.nodup_iff.mp w.nd,fun q=>w.rdy (pe.mem_iff.mpr q),w.nsl,w.txn,w.fks,g1.num hm w.N len_snoc,hk⟩
 refine c.get (w.exs x (List.mem_of_mem_erase hx)) fun q=>?_
 rcases q with q|q|q
 ·exact nk (i:=x) (by decide:K.real∉_) q
 ·rw [q] at hx;exact hnd.not_mem_erase hx
 ·exact absurd (same_kind (w.exs x (List.mem_of_mem_erase hx)) (q▸w.C.ce)) (by decide)
theorem Mem.free (w:Mem k s T) {r:Nat} (h:T[r]?=none):r∉s.cells.map Ce.rid++s.ex∧r≠s.h.rdy∧r∉s.cells.map Ce.pid :=
 ⟨fun q=>(List.mem_append.mp q).elim (w.C.free h).1 fun q=>some_ne ((w.exs r q).symm.trans h),fun q=>some_ne (w.W.hb.rdy.symm.trans (q▸h)),(w.C.free h).2⟩
theorem Mem.more {rs pend':List Nat} {g':MG} (w:Mem k s T) (d:Nat) (hk:k+d≤180) (q:OffP [1,2,3,5,11,12,13,14,24,25,26,27,29,30,31,32] T T') (H':Hq (Pl s.i s.mi s.h.hp g' s.ns s.cm s.tx) g'.frames g'.chases s.mi.kt g'.fails.length T') (hn:∀ r∈rs,T[r]?=none) (hr:∀ r∈rs,T'[r]?=some (.real,.list [])) (hd:rs.Nodup)
  (hp:(rootsW s.mi g'++pend').Perm (rootsW s.mi s.g++s.pend++rs)) (hfk:g'.fails.map (·.1)=(List.range g'.fails.length).map fun j=>((20+j:Nat):Int)) (N':Num (k+d) s.f.made s.f.at_ s.f.count s.cells.length g'.frames.length g'.chases.length g'.fails.length g'.held.length):Mem (k+d) (s.mo g' pend' rs) T':=by
 have fr:=fun r hr=>w.free (hn r hr)
 have e:s.cells.map Ce.rid++(s.ex++rs)=(s.cells.map Ce.rid++s.ex)++rs:=(List.append_assoc ..).symm
 refine⟨w.W.off q.sub (q.g w.W.hb.rdy rfl),w.C.off (.refl _) q.sub,H',fun x hx=>(List.mem_append.mp hx).elim (fun h=>q.g (w.exs x h) rfl) (hr x),?_,?_,?_,w.nsl,w.txn,hfk,N',hk⟩
 ·show (rootsW s.mi g'++pend').Perm (s.cells.map Ce.rid++(s.ex++rs));rw [e];exact hp.trans (.append_right _ w.perm)
 ·show (s.cells.map Ce.rid++(s.ex++rs)).Nodup
  rw [e]
  exact List.nodup_append.mpr ⟨w.nd,hd,fun a ha b hb q=>(fr b hb).1 (q▸ha)⟩
 ·show s.h.rdy∉s.cells.map Ce.rid++(s.ex++rs)
  rw [e]
  exact fun q=>(List.mem_append.mp q).elim w.rdy fun q=>(fr _ q).2.1 rfl
end
set_option genInjectivity false
section
variable {k m r pid ce':Nat} {s:Gs} {T T':TH} {f':WN} {hf':Hn} {ts':List Th} {g':MG} {cm':List (Nat×Chs)} {c:Ce} {tt:Tg}
theorem one_snoc {α:Type} {l:List α} {a:α} {P:α→Prop} (h:∀ x∈l,P x) (h':P a):∀ x∈l++[a],P x:=fun x hx=>(List.mem_append.mp hx).elim (h x) fun q=>List.mem_singleton.mp q▸h'
theorem nd_snoc {l:List Nat} {a:Nat} (h:l.Nodup) (n:a∉l):(l++[a]).Nodup:=(List.perm_append_singleton a l).nodup_iff.mpr (List.nodup_cons.mpr ⟨n,h⟩)
theorem CL.snoc {i:WId} {ts:List Th} {cells:List Ce} (C:CL i ts cells T) (q:OffP [29,32] T T') (hce:T'[i.ce]?=some (.ce,.list ((cells++[c]).map Ce.v))) (hr:T'[c.rid]?=some (.real,.list (c.specs.map (Spec.val (whOf ts))))) (hp:T'[c.pid]?=some (.cspec,.list (c.specs.map Spec.v)))
  (hok:∀ s∈c.specs,s.Ok ts) (hl:c.specs.length≤10) (hnr:c.rid∉cells.map Ce.rid) (hnp:c.pid∉cells.map Ce.pid):CL i ts (cells++[c]) T' :=
 ⟨hce,one_snoc (fun x hx=>q.g (C.row x hx) rfl) hr,one_snoc (fun x hx=>q.g (C.spec x hx) rfl) hp,one_snoc C.ok hok,by rw [List.map_append];exact nd_snoc C.rn hnr,by rw [List.map_append];exact nd_snoc C.pn hnp,one_snoc C.len hl⟩
theorem perm_in {C D:List Nat} {r:Nat}:((C++[r])++D).Perm (r::(C++D)):=List.Perm.append_right _ (List.perm_append_singleton _ _)
theorem Mem.cell (w:Mem k s T) (hk:k+1≤180) (q:OffP [1,2,3,5,11,12,13,14,24,25,26,29,30,31,32] T T') (H':Hq (Pl s.i s.mi s.h.hp g' s.ns cm' s.tx) g'.frames g'.chases s.mi.kt g'.fails.length T') (hnr:T[c.rid]?=none) (hnp:T[c.pid]?=none) (hce:T'[s.i.ce]?=some (.ce,.list ((s.cells++[c]).map Ce.v))) (hr:T'[c.rid]?=some (.real,.list (c.specs.map (Spec.val (whOf s.ts))))) (hp:T'[c.pid]?=some (.cspec,.list (c.specs.map Spec.v)))
  (hok:∀ x∈c.specs,x.Ok s.ts) (hl:c.specs.length≤10) (hro:(rootsW s.mi g').Perm (rootsW s.mi s.g++[c.rid])) (hfk:g'.fails=s.g.fails) (N':Num (k+1) s.f.made s.f.at_ s.f.count (s.cells++[c]).length g'.frames.length g'.chases.length g'.fails.length g'.held.length):Mem (k+1) (s.cl g' c cm') T':=by
 have fr:=w.free hnr
 have e:((s.cells++[c]).map Ce.rid++s.ex).Perm (c.rid::(s.cells.map Ce.rid++s.ex)):=by rw [List.map_append];exact perm_in
 refine⟨w.W.off q.sub (q.g w.W.hb.rdy rfl),w.C.snoc q.sub hce hr hp hok hl (fun h=>fr.1 (List.mem_append_left _ h)) (w.free hnp).2.2,H',fun x hx=>q.g (w.exs x hx) rfl,?_,e.nodup_iff.mpr (List.nodup_cons.mpr ⟨fr.1,w.nd⟩),fun h=>(List.mem_cons.mp (e.mem_iff.mp h)).elim (fun h=>fr.2.1 h.symm) w.rdy,w.nsl,w.txn,hfk▸w.fks,N',hk⟩
 exact ((List.Perm.append_right _ (hro.trans (List.perm_append_singleton _ _))).trans (.cons _ w.perm)).trans e.symm
theorem Mem.frame {f:Fr} {pend':List Nat} (w:Mem k s T) (hk:k+1≤180) (c:Chg (oneX s.mi.frs) T T') (hf:T[f.id]?=some (.fr,f.obj)) (hfs:T'[s.mi.frs]?=some (.frs,.list ((s.g.frames++[f]).map fun f=>.obj f.id))) (hp:(rootsW s.mi {s.g with frames:=s.g.frames++[f]}++pend').Perm (rootsW s.mi s.g++s.pend)):Mem (k+1) (s.fm f pend') T' :=
 have q:∀ {p:List Nat},kin p .frs=false→OffP p T T':=fun hp=>OffP.one c hfs hp
 have hf':=c.otherK hf hfs (by decide)
 ⟨w.W.off (q rfl) ((q (p:=[29]) rfl).g w.W.hb.rdy rfl),w.C.off (.refl _) (q rfl),(w.H.put 1 c hfs).fam (one_snoc (fun _ h=>.inl h) (.inr hf')) fun _ h=>.inl h,fun x hx=>(q (p:=[29]) rfl).g (w.exs x hx) rfl,hp.trans w.perm,w.nd,w.rdy,w.nsl,w.txn,w.fks,w.N.up 1 (h5:=len_snoc) nl nl nl nl nl nl nl,hk⟩
theorem Mem.drop (w:Mem k s T) (q:OffP [2,3,5,11,12,13,14,24,25,26,29,30,31,32] T T') (hce:T'[ce']?=some (.ce,.list ((dropC s.cells tt).map Ce.v))) (hw:T'[s.i.w]?=some (.w,WId.obj {s.i with ce:=ce'} s.f)) (H':Hq (Pl s.i s.mi s.h.hp g' s.ns cm' s.tx) g'.frames g'.chases s.mi.kt g'.fails.length T')
  (hp:(rootsW s.mi s.g).Perm (rootsW s.mi g'++rowsOf s.cells tt)) (hf:g'.fails=s.g.fails) (h5:g'.frames.length≤s.g.frames.length) (h6:g'.chases.length≤s.g.chases.length) (h8:g'.held.length≤s.g.held.length):Mem k (s.dr ce' g' tt cm') T':=by
 have p1:=rows_perm (cells:=s.cells) (t:=tt)
 have p2:(s.cells.map Ce.rid++s.ex).Perm (rowsOf s.cells tt++((dropC s.cells tt).map Ce.rid++s.ex)):=by
  rw [←List.append_assoc];exact List.Perm.append_right _ p1
 have sub:∀ x∈dropC s.cells tt,x∈s.cells:=fun x hx=>(List.mem_filter.mp hx).1
 have W:=w.W
 have b:=W.bk
 have C:=w.C
 refine⟨⟨⟨q.g W.hb.hp rfl,q.g W.hb.tl rfl,q.g W.hb.at_ rfl,q.g W.hb.cd rfl,q.g W.hb.fin rfl,q.g W.hb.rdy rfl,fun t ht=>q.g (W.hb.th t ht) rfl⟩,fun t ht=>q.g (W.sl t ht) rfl,W.good,⟨hw,q.g b.ag rfl,q.g b.wh rfl,b.wt.elim fun wl e=>⟨wl,q.g e.1 rfl,e.2⟩,fun t ht=>q.g (b.pid t ht) rfl,b.top,b.made⟩,W.made,W.sh.elim fun fs e=>⟨fs,q.g e.1 rfl,e.2⟩⟩,
  ⟨hce,fun x hx=>q.g (C.row x (sub x hx)) rfl,fun x hx=>q.g (C.spec x (sub x hx)) rfl,fun x hx=>C.ok x (sub x hx),List.Pairwise.sublist (List.filter_sublist.map _) C.rn,List.Pairwise.sublist (List.filter_sublist.map _) C.pn,fun x hx=>C.len x (sub x hx)⟩,H',fun x hx=>q.g (w.exs x hx) rfl,?_,(List.nodup_append.mp (p2.nodup_iff.mp w.nd)).2.1,fun h=>w.rdy (p2.mem_iff.mpr (List.mem_append_right _ h)),w.nsl,w.txn,hf▸w.fks,
  w.N.up 0 (h4:=List.length_filter_le _ _) (h5:=h5) (h6:=h6) (h7:=Nat.le_of_eq (congrArg _ hf)) (h8:=Nat.mul_le_mul_left 3 h8) nl nl nl,w.kl⟩
 have h2:(rootsW s.mi g'++rowsOf s.cells tt++s.pend).Perm (rowsOf s.cells tt++(rootsW s.mi g'++s.pend)):=by
  rw [←List.append_assoc];exact List.Perm.append_right _ List.perm_append_comm
 exact (List.perm_append_left_iff _).mp (h2.symm.trans (((List.Perm.append_right s.pend hp).symm.trans w.perm).trans p2))
end
theorem mem_set_nd {f:Ce→Nat} {l:List Ce} {j:Nat} {c c' x:Ce} (hn:(l.map f).Nodup) (hj:l[j]?=some c) (hx:x∈l.set j c'):x=c'∨(x∈l∧f x≠f c):=by
 obtain⟨i,hi⟩:=List.getElem?_of_mem hx
 by_cases q:j=i
 ·subst q
  rw [List.getElem?_set_self (List.getElem?_eq_some_iff.mp hj).1] at hi
  exact .inl (Option.some.inj hi).symm
 ·rw [List.getElem?_set_ne q] at hi
  refine .inr ⟨List.mem_of_getElem? hi,fun e=>q ?_⟩
  have h1:(l.map f)[j]?=(l.map f)[i]?:=by rw [List.getElem?_map,List.getElem?_map,hi,hj,Option.map_some,Option.map_some,e]
  exact (List.getElem?_inj (by rw [List.length_map];exact (List.getElem?_eq_some_iff.mp hj).1) hn).mp h1
theorem map_set_same {α β:Type} {f:α→β} {c c':α} {l:List α} {j:Nat} (e:f c'=f c) (h:l[j]?=some c):(l.set j c').map f=l.map f:=by
 rw [List.map_set,e]
 exact set_same (by rw [List.getElem?_map,h];rfl)
noncomputable abbrev setX (c:Ce):Nat→K→Prop:=fun i k=>ksX [.hp,.tl,.at_,.w,.ag,.wh,.wt,.inn,.tx] i k∨i=c.rid∨i=c.pid
theorem Mem.setf {k j m:Nat} {s:Gs} {T T':TH} {c:Ce} {specs:List Spec} {f':WN} {hf':Hn} {ts':List Th} {tx':List Nat} (w:Mem k s T) (hk:k+1≤180) (W':HW s.i f' s.h hf' ts' T') (g1:NGrow s.f f' m) (hm:m≤30) (g2:Grow s.ts ts') (hj:s.cells[j]?=some c) (cc:Chg (setX c) T T') (htd:T'[s.i.tx]?=some (.tx,.di (txD tx'))) (hts:T'[s.mi.inn]?=some (.inn,.ds (txS tx'))) (htn:tx'.Nodup∧∀ n∈tx',n≤2) (hr:T'[c.rid]?=some (.real,.list (specs.map (Spec.val (whOf ts'))))) (hp:T'[c.pid]?=some (.cspec,.list (specs.map Spec.v)))
  (hok:∀ x∈specs,x.Ok ts') (hl:specs.length≤10):Mem (k+1) (s.st f' hf' ts' j c specs tx') T':=by
 have C:=w.C
 have hcm:=List.mem_of_getElem? hj
 have q:∀ {p:List Nat},([.real,.cspec,.hp,.tl,.at_,.w,.ag,.wh,.wt,.inn,.tx]:List K).all (fun k=>!kin p k)=true→OffP p T T':=fun h=>⟨fun hi hp=>cc.get hi fun q=>kin_not h hp (by
  rcases q with q|q|q
  ·exact .tail _ (.tail _ q)
  ·rw [q] at hi;rw [same_kind hi (C.row c hcm)];exact .head _
  ·rw [q] at hi;rw [same_kind hi (C.spec c hcm)];exact .tail _ (.head _))⟩
 have offr:∀ {i':Nat} {o':O},T[i']?=some (.real,o')→i'≠c.rid→T'[i']?=some (.real,o'):=fun {i'} _ hi q1=>cc.get hi fun q=>by
  rcases q with q|q|q
  ·exact nk (i:=i') (by decide:K.real∉_) q
  ·exact q1 q
  ·exact absurd (same_kind hi (q▸C.spec c hcm)) (by decide)
 have offp:∀ {i':Nat} {o':O},T[i']?=some (.cspec,o')→i'≠c.pid→T'[i']?=some (.cspec,o'):=fun {i'} _ hi q1=>cc.get hi fun q=>by
  rcases q with q|q|q
  ·exact nk (i:=i') (by decide:K.cspec∉_) q
  ·exact absurd (same_kind hi (q▸C.row c hcm)) (by decide)
  ·exact q1 q
 have er:(s.cells.set j {c with specs:=specs}).map Ce.rid=s.cells.map Ce.rid:=map_set_same (c:=c) (c':={c with specs:=specs}) rfl hj
 have qc:OffP [27] T T':=q rfl
 have qp:OffP [2,4,6,7,8,9,10,16,17,18,19,20,22,28,33] T T':=q rfl
 have H:=w.H
 refine⟨W',⟨(map_set_same (c:=c) (c':={c with specs:=specs}) (f:=Ce.v) rfl hj)▸qc.g C.ce rfl,fun x hx=>?_,fun x hx=>?_,fun x hx=>?_,er▸C.rn,(map_set_same (c:=c) (c':={c with specs:=specs}) (f:=Ce.pid) rfl hj)▸C.pn,fun x hx=>?_⟩,
  ⟨H.P.elim fun hd a=>⟨hd,?_,a.2.off qp⟩,fun f hf=>qp.g (H.fr f hf) rfl,fun f hf=>qp.g (H.ch f hf) rfl,H.kt.off qp⟩,fun x hx=>offr (w.exs x hx) fun q=>(List.nodup_append.mp w.nd).2.2 _ (List.mem_map_of_mem hcm) _ hx q.symm,er▸w.perm,er▸w.nd,er▸w.rdy,w.nsl,htn,w.fks,g1.num hm w.N (by show (s.cells.set j _).length≤_;rw [List.length_set];exact Nat.le_add_right _ _),hk⟩
 ·rcases mem_set_nd C.rn hj hx with rfl|h
  ·exact hr
  ·rw [List.map_congr_left fun s' hs=>g2.val s' (C.ok x h.1 s' hs)]
   exact offr (C.row x h.1) h.2
 ·rcases mem_set_nd C.pn hj hx with rfl|h
  ·exact hp
  ·exact offp (C.spec x h.1) h.2
 ·rcases mem_set_nd C.rn hj hx with rfl|h
  ·exact hok
  ·exact fun s' hs=>g2.ok s' (C.ok x h.1 s' hs)
 ·rcases mem_set_nd C.rn hj hx with rfl|h
  ·exact hl
  ·exact C.len x h.1
 ·have A:AllK ((Pl s.i s.mi s.h.hp s.g s.ns s.cm s.tx hd).take 9) T':=AllK.off (fun x hx=>a.1 x (List.mem_of_mem_take hx)) qp rfl
  exact fun x hx=>(List.mem_append (s:=(Pl s.i s.mi s.h.hp s.g s.ns s.cm s.tx hd).take 9) (t:=[(s.i.tx,.tx,.di (txD tx')),(s.mi.inn,.inn,.ds (txS tx'))])).mp hx |>.elim (A x) fun h=>(List.mem_cons.mp h).elim (fun h=>h▸htd) fun h=>List.mem_singleton.mp h▸hts
set_option genInjectivity false
noncomputable def tc:Tg→Nat
 | .tx=>0
 | .st=>1
 | .fa=>2
 | .un=>3
 | .ch _=>4
 | .fr _=>5
 | .he _=>6
theorem tne {a b:Tg} (h:Nat.beq (tc a) (tc b)=false:=by rfl):a≠b:=fun e=>by subst e;rw [Nat.beq_refl] at h;cases h
structure TgW (count iv:Nat) (g:MG) (cells:List Ce) (cm:List (Nat×Chs)) (tx:List Nat):Prop where
 chm:g.chases=cm.map (·.2)
 chr:∀ p∈cm,p.1≤count∧rowsOf cells (.ch p.1)=[p.2.rid]
 chd:(cm.map (·.1)).Nodup
 che:∀ c∈cells,∀ p∈cm,c.tag=(Tg.ch p.1).s→0<c.specs.length
 frr:∀ f∈g.frames,(f.number≤count∧f.home≤f.number)∧(rowsOf cells (.fr f.number)).Perm f.rows
 frd:(g.frames.map Fr.number).Nodup
 her:∀ j r,g.held[j]?=some r→rowsOf cells (.he (j+1))=[r]
 new:∀ m,count<m→m<64→rowsOf cells (.ch m)=[]∧rowsOf cells (.fr m)=[]
 hew:∀ m,g.held.length<m→m<64→rowsOf cells (.he m)=[]
 hd0:∃ ct rest,cells=ct::rest∧ct.tag=Tg.tx.s∧ct.rid=iv∧ct.specs.length=tx.length
noncomputable abbrev Gs.Tgs (s:Gs):Prop:=TgW s.f.count s.mi.iv s.g s.cells s.cm s.tx
noncomputable def RowsX (tt:Tg) (cells cells':List Ce):Prop:=∀ t',t'.Ok→tt≠t'→rowsOf cells' t'=rowsOf cells t'
section
variable {count count' iv r pid:Nat} {g g':MG} {cells cells':List Ce} {cm cm':List (Nat×Chs)} {tx tx':List Nat} {tt:Tg} {specs:List Spec}
theorem rowsX_snoc (ok:tt.Ok):RowsX tt cells (cells++[⟨tt.s,specs,r,pid⟩]):=fun t' h n=>by rw [rows_snoc (t:=tt) ok h rfl,if_neg n,List.append_nil]
theorem rows_same (ok:tt.Ok):rowsOf (cells++[⟨tt.s,specs,r,pid⟩]) tt=rowsOf cells tt++[r]:=by rw [rows_snoc (t:=tt) ok ok rfl,if_pos rfl]
theorem TgW.keep (t:TgW count iv g cells cm tx) (R:RowsX tt cells cells') (hl:count≤count') (hc:count'<64) (hh:g.held.length<64) (chm:g'.chases=cm'.map (·.2)) (chd:(cm'.map (·.1)).Nodup) (frd:(g'.frames.map Fr.number).Nodup)
  (hch:∀ p∈cm',(p∈cm∧tt≠.ch p.1)∨(p.1≤count'∧rowsOf cells' (.ch p.1)=[p.2.rid])) (che:∀ c∈cells',∀ p∈cm',c.tag=(Tg.ch p.1).s→0<c.specs.length)
  (hfr:∀ f∈g'.frames,(f∈g.frames∧tt≠.fr f.number)∨((f.number≤count'∧f.home≤f.number)∧(rowsOf cells' (.fr f.number)).Perm f.rows)) (hhe:∀ j r,g'.held[j]?=some r→(g.held[j]?=some r∧tt≠.he (j+1))∨rowsOf cells' (.he (j+1))=[r])
  (hnew:∀ m,count'<m→m<64→(tt≠.ch m∨rowsOf cells' (.ch m)=[])∧(tt≠.fr m∨rowsOf cells' (.fr m)=[])) (hhw:∀ m,g'.held.length<m→m<64→(g.held.length<m∧tt≠.he m)∨rowsOf cells' (.he m)=[]) (hd0:∃ ct rest,cells'=ct::rest∧ct.tag=Tg.tx.s∧ct.rid=iv∧ct.specs.length=tx'.length):TgW count' iv g' cells' cm' tx' where
 chm:=chm
 chd:=chd
 frd:=frd
 che:=che
 hd0:=hd0
 chr p hp:=(hch p hp).elim (fun h=>have q:=t.chr p h.1;⟨Nat.le_trans q.1 hl,(R (.ch p.1) (Nat.lt_of_le_of_lt (Nat.le_trans q.1 hl) hc) h.2).trans q.2⟩) id
 frr f hf:=(hfr f hf).elim (fun h=>have q:=t.frr f h.1;have l:=Nat.le_trans q.1.1 hl;⟨⟨l,q.1.2⟩,by rw [R (.fr f.number) (Nat.lt_of_le_of_lt l hc) h.2];exact q.2⟩) id
 her j r hj:=(hhe j r hj).elim (fun h=>(R (.he (j+1)) (Nat.lt_of_le_of_lt (List.getElem?_eq_some_iff.mp h.1).1 hh) h.2).trans (t.her j r h.1)) id
 new m h1 h2:=have q:=hnew m h1 h2;have n:=t.new m (Nat.lt_of_le_of_lt hl h1) h2;⟨q.1.elim (fun e=>(R (.ch m) h2 e).trans n.1) id,q.2.elim (fun e=>(R (.fr m) h2 e).trans n.2) id⟩
 hew m h1 h2:=(hhw m h1 h2).elim (fun h=>(R (.he m) h2 h.2).trans (t.hew m h.1 h2)) id
theorem TgW.up (t:TgW count iv g cells cm tx):TgW (count+1) iv g cells cm tx :=
 ⟨t.chm,fun p hp=>⟨Nat.le_succ_of_le (t.chr p hp).1,(t.chr p hp).2⟩,t.chd,t.che,fun f hf=>⟨⟨Nat.le_succ_of_le (t.frr f hf).1.1,(t.frr f hf).1.2⟩,(t.frr f hf).2⟩,t.frd,t.her,fun m h=>t.new m (Nat.lt_of_succ_lt h),t.hew,t.hd0⟩
theorem hd0_snoc {c:Ce} (h:∃ ct rest,cells=ct::rest∧ct.tag=Tg.tx.s∧ct.rid=iv∧ct.specs.length=tx.length):∃ ct rest,cells++[c]=ct::rest∧ct.tag=Tg.tx.s∧ct.rid=iv∧ct.specs.length=tx.length :=
 h.elim fun ct h=>h.elim fun rest h=>⟨ct,rest++[c],congrArg (·++[c]) h.1,h.2⟩
theorem ch_inj {m n:Nat} (h:Tg.ch m=.ch n):m=n:=Tg.ch.inj h
theorem TgW.add (t:TgW count iv g cells cm tx) (ok:tt.Ok) (hc:count<64) (hh:g.held.length<64) (e1:g'.chases=g.chases) (e2:g'.frames=g.frames) (n1:∀ m,tt≠.ch m) (n2:∀ f∈g.frames,tt≠.fr f.number) (n3:∀ m,count<m→tt≠.fr m)
  (hhe:∀ j r',g'.held[j]?=some r'→(g.held[j]?=some r'∧tt≠.he (j+1))∨rowsOf (cells++[⟨tt.s,specs,r,pid⟩]) (.he (j+1))=[r']) (hhw:∀ m,g'.held.length<m→m<64→g.held.length<m∧tt≠.he m):TgW count iv g' (cells++[⟨tt.s,specs,r,pid⟩]) cm tx :=
 t.keep (rowsX_snoc ok) (Nat.le_refl _) hc hh (e1.trans t.chm) t.chd (e2▸t.frd) (fun p hp=>.inl ⟨hp,n1 _⟩)
  (fun c hx p hp e=>(List.mem_append.mp hx).elim (fun hx=>t.che c hx p hp e) fun hx=>absurd (Tg.inj ok (show Tg.Ok (.ch p.1) from Nat.lt_of_le_of_lt (t.chr p hp).1 hc) (by rw [←e,List.mem_singleton.mp hx])) (n1 _))
  (fun f hf=>.inl ⟨e2▸hf,n2 f (e2▸hf)⟩) hhe (fun m h _=>⟨.inl (n1 m),.inl (n3 m h)⟩) (fun m h1 h2=>.inl (hhw m h1 h2)) (hd0_snoc t.hd0)
noncomputable def plainT:Tg→Bool
 | .st|.fa|.un=>true
 | _=>false
theorem TgW.addp (t:TgW count iv g cells cm tx) (hp:plainT tt=true) (hc:count<64) (hh:g.held.length<64) (e1:g'.chases=g.chases) (e2:g'.frames=g.frames) (e3:g'.held=g.held):TgW count iv g' (cells++[⟨tt.s,specs,r,pid⟩]) cm tx:=by
 have n:tt.Ok∧(∀ m,tt≠.ch m)∧(∀ m,tt≠.fr m)∧∀ m,tt≠.he m:=by
  cases tt with
  | st|fa|un=>exact⟨trivial,fun _=>tne,fun _=>tne,fun _=>tne⟩
  | _=>exact (Bool.false_ne_true hp).elim
 exact t.add n.1 hc hh e1 e2 n.2.1 (fun _ _=>n.2.2.1 _) (fun _ _=>n.2.2.1 _) (fun j r' h=>.inl ⟨e3▸h,n.2.2.2 _⟩) fun m h _=>⟨e3▸h,n.2.2.2 _⟩
theorem TgW.addf {rs:List Nat} (t:TgW count iv g cells cm tx) (hc:count<64) (hh:g.held.length<64) (hr:rowsOf cells (.fr count)=rs) (hn:∀ x∈g.frames,x.number≠count):TgW count iv g (cells++[⟨(Tg.fr count).s,specs,r,pid⟩]) cm tx∧rowsOf (cells++[⟨(Tg.fr count).s,specs,r,pid⟩]) (.fr count)=rs++[r] :=
 ⟨t.add (tt:=.fr count) hc hc hh rfl rfl (fun m=>tne) (fun f hf q=>hn f hf (Tg.fr.inj q).symm) (fun m h q=>Nat.lt_irrefl _ ((Tg.fr.inj q)▸h)) (fun j r' hj=>.inl ⟨hj,tne⟩) (fun m h1 h2=>⟨h1,tne⟩),hr▸rows_same (tt:=.fr count) hc⟩
theorem TgW.push {f:Fr} (t:TgW count iv g cells cm tx) (hc:f.number≤count∧f.home≤f.number) (hr:(rowsOf cells (.fr f.number)).Perm f.rows) (hn:∀ x∈g.frames,x.number≠f.number):TgW count iv {g with frames:=g.frames++[f]} cells cm tx :=
 ⟨t.chm,t.chr,t.chd,t.che,one_snoc t.frr ⟨hc,hr⟩,by
  show ((g.frames++[f]).map Fr.number).Nodup
  rw [List.map_append]
  exact nd_snoc t.frd fun h=>(List.mem_map.mp h).elim fun x h=>hn x h.1 h.2,t.her,t.new,t.hew,t.hd0⟩
theorem TgW.chase (t:TgW count iv g cells cm tx) (hc:count+1<64) (hh:g.held.length<64) {c:Chs} (hs:0<specs.length):TgW (count+1) iv {g with chases:=g.chases++[c]} (cells++[⟨(Tg.ch (count+1)).s,specs,c.rid,pid⟩]) (cm++[(count+1,c)]) tx:=by
 have ne:∀ p∈cm,Tg.ch (count+1)≠.ch p.1:=fun p hp e=>Nat.lt_irrefl count (Tg.ch.inj e▸(t.chr p hp).1:count+1≤count)
 have h0:=(t.new _ (Nat.lt_succ_self _) hc).1
 have hr:rowsOf (cells++[⟨(Tg.ch (count+1)).s,specs,c.rid,pid⟩]) (.ch (count+1))=[c.rid]:=(rows_same (tt:=.ch (count+1)) hc).trans (by rw [h0];rfl)
 refine t.keep (tt:=.ch (count+1)) (rowsX_snoc hc) (Nat.le_succ _) hc hh ?_ ?_ t.frd (one_snoc (fun p hp=>.inl ⟨hp,ne p hp⟩) (.inr ⟨Nat.le_refl _,hr⟩)) (one_snoc (fun x hx=>one_snoc (t.che x hx) fun e=>?_) fun _ _ _=>hs) (fun f hf=>.inl ⟨hf,tne⟩) (fun j r hj=>.inl ⟨hj,tne⟩) (fun m h _=>⟨.inl fun e=>Nat.lt_irrefl _ (Tg.ch.inj e▸h),.inl tne⟩) (fun m h _=>.inl ⟨h,tne⟩) (hd0_snoc t.hd0)
 ·show g.chases++[c]=_;rw [t.chm,List.map_append];rfl
 ·rw [List.map_append]
  exact nd_snoc t.chd fun h=>(List.mem_map.mp h).elim fun p h=>ne p h.1 (congrArg Tg.ch h.2.symm)
 ·have:x.rid∈rowsOf cells (.ch (count+1)):=List.mem_map.mpr ⟨x,List.mem_filter.mpr ⟨hx,decide_eq_true e⟩,rfl⟩
  rw [h0] at this;cases this
theorem TgW.drop (t:TgW count iv g cells cm tx) (ok:tt.Ok) (hc:count<64) (hh:g.held.length<64) (ntx:tt≠.tx) (chm:g'.chases=cm'.map (·.2)) (hcm:∀ p∈cm',p∈cm∧tt≠.ch p.1) (hcd:(cm'.map (·.1)).Nodup)
  (hfr:∀ f∈g'.frames,f∈g.frames∧tt≠.fr f.number) (hfd:(g'.frames.map Fr.number).Nodup) (hhe:∀ j r,g'.held[j]?=some r→g.held[j]?=some r∧tt≠.he (j+1)) (hhw:∀ m,g'.held.length<m→g.held.length<m∨tt=.he m):TgW count iv g' (dropC cells tt) cm' tx:=by
 have nil:rowsOf (dropC cells tt) tt=[]:=by rw [rows_drop ok ok,if_pos rfl]
 have no:∀ t':Tg,tt≠t'∨rowsOf (dropC cells tt) t'=[]:=fun t'=>(Decidable.em (tt=t')).elim (fun e=>.inr (e▸nil)) .inl
 refine t.keep (tt:=tt) (fun t' h n=>by rw [rows_drop ok h,if_neg n]) (Nat.le_refl _) hc hh chm hcd hfd (fun p hp=>.inl (hcm p hp)) (fun c hx p hp e=>t.che c (List.mem_filter.mp hx).1 p (hcm p hp).1 e) (fun f hf=>.inl (hfr f hf)) (fun j r h=>.inl (hhe j r h)) (fun m _ _=>⟨no _,no _⟩)
  (fun m h _=>(hhw m h).elim (fun h=>(no (.he m)).imp_left fun n=>⟨h,n⟩) fun e=>.inr (e▸nil)) (t.hd0.elim fun ct h=>h.elim fun rest h=>⟨ct,rest.filter fun c=>!decide (c.tag=tt.s),?_,h.2⟩)
 have:¬ ct.tag=tt.s:=fun q=>ntx (Tg.inj ok (show Tg.Ok .tx from trivial) (q.symm.trans h.2.1))
 unfold dropC
 rw [h.1,List.filter_cons,if_pos (by rw [decide_eq_false this];rfl)]
theorem rows_set {t:Tg} {c c':Ce} (e1:c'.tag=c.tag) (e2:c'.rid=c.rid):∀ {cells:List Ce} {j:Nat},cells[j]?=some c→rowsOf (cells.set j c') t=rowsOf cells t:=fun {cells}=>by
 induction cells with
 | nil=>exact fun h=>some_ne h.symm
 | cons a l ih =>
  intro j
  cases j with
  | zero =>
   intro h
   cases h
   unfold rowsOf
   rw [List.set_cons_zero,List.filter_cons,List.filter_cons,e1]
   split
   ·rw [List.map_cons,List.map_cons,e2]
   ·rfl
  | succ j =>
  intro h
  have ih:=ih (j:=j) h
  unfold rowsOf at ih ⊢
  rw [List.set_cons_succ,List.filter_cons,List.filter_cons]
  split
  ·rw [List.map_cons,List.map_cons,ih]
  ·exact ih
theorem TgW.setc {j:Nat} {c:Ce} (t:TgW count iv g cells cm tx) (hc:count<64) (hh:g.held.length<64) (hj:cells[j]?=some c) (hs:0<c.specs.length→0<specs.length) (h0:j=0→specs.length=tx'.length) (h1:j≠0→tx'=tx):TgW count iv g (cells.set j {c with specs:=specs}) cm tx':=by
 have R:∀ t',rowsOf (cells.set j {c with specs:=specs}) t'=rowsOf cells t':=fun t'=>rows_set (c:=c) (c':={c with specs:=specs}) rfl rfl hj
 refine t.keep (tt:=.tx) (fun t' _ _=>R t') (Nat.le_refl _) hc hh t.chm t.chd t.frd (fun p hp=>.inl ⟨hp,tne⟩) (fun x hx p hp e=>(List.mem_or_eq_of_mem_set hx).elim (fun q=>t.che x q p hp e) fun q=>?_) (fun f hf=>.inl ⟨hf,tne⟩) (fun j r h=>.inl ⟨h,tne⟩) (fun m _ _=>⟨.inl tne,.inl tne⟩) (fun m h _=>.inl ⟨h,tne⟩) ?_
 ·rw [q] at e ⊢
  exact hs (t.che c (List.mem_of_getElem? hj) p hp e)
 ·obtain⟨ct,rest,e,h⟩:=t.hd0
  subst e
  cases j with
  | zero=>cases hj;exact⟨_,rest,rfl,h.1,h.2.1,h0 rfl⟩
  | succ j=>exact⟨ct,rest.set j _,rfl,h.1,h.2.1,h1 (Nat.succ_ne_zero _)▸h.2.2⟩
end
set_option genInjectivity false
theorem dput_none {α:Type} [DecidableEq α]:∀ {l:List (α×V)} {k:α} {v:V},dget l k=none→dput l k v=l++[(k,v)]
 | [],_,_,_=>rfl
 | p::r,k,v,h=>by
  unfold dget at h
  by_cases q:p.1=k
  ·rw [if_pos q] at h;cases h
  ·rw [if_neg q] at h
   unfold dput
   rw [if_neg q,dput_none h];rfl
theorem dget_app' {α:Type} [DecidableEq α] {l:List (α×V)} {k k':α} {v:V} (h:k'≠k):dget (l++[(k,v)]) k'=dget l k':=by
 induction l with
 | nil=>simp [dget,Ne.symm h]
 | cons p r ih =>
  show dget (p::(r++[(k,v)])) k'=dget (p::r) k'
  unfold dget
  split
  ·rfl
  ·exact ih
theorem sp_inner {n x sx:Nat} {T:TH} {Q:V→TH→Prop} (hs:sx=2∨sx=3) (k:Q (.tup []) T):CallY (CN (n+1)) 11 [.tup [.int (sx:Int),.int (x:Int),.tup []]] T Q:=by
 refine call_fn (fd:=fd_inner_kinds) (by rfl) (by rfl) ?_
 show SV _ [some (.tup [.int (sx:Int),.int (x:Int),.tup []]),none] _ _ _
 rcases hs with rfl|rfl<;>(k_ownIn;exact k)
theorem sp_level {n sx:Nat} {T:TH} {Q:V→TH→Prop} (hs:sx=2∨sx=3) (k:Q (.int 1) T):CallY (CN (n+1)) 12 [.int (sx:Int)] T Q:=by
 refine call_fn (fd:=fd_row_level) (by rfl) (by rfl) ?_
 show SV _ [some (.int (sx:Int))] _ _ _
 rcases hs with rfl|rfl<;>(k_ownIn;exact k)
theorem sp_rowlen {n sx:Nat} {T:TH} {Q:V→TH→Prop} (hs:sx=2∨sx=3) (k:Q (.int 3) T):CallY (CN (n+1)) 13 [.int (sx:Int)] T Q:=by
 refine call_fn (fd:=fd_row_length) (by rfl) (by rfl) ?_
 show SV _ [some (.int (sx:Int))] _ _ _
 rcases hs with rfl|rfl<;>(k_ownIn;exact k)
theorem sp_ckargs {n:Nat} {kt:V} {T:TH} {Q:V→TH→Prop} (k:Q .none T):CallY (CN (n+1)) 16 [kt,.tup []] T Q:=by
 refine call_fn (fd:=fd_check_args) (by rfl) (by rfl) ?_
 show SV _ [some kt,some (.tup []),none] _ _ _
 k_ownIn
 k_ownIn
 refine ForY.empty ?_
 k_ownIn
 exact k
theorem in_tid {x:Nat} (h:64≤x):([20,9,10,11,12,13,14,15,16,17,18,19,1,4]:List Int).contains (x:Int)=false:=by
 have:∀ l:List Int,(∀ i∈l,i<64)→l.contains (x:Int)=false:=fun l hl=>Bool.eq_false_iff.mpr fun q=>Int.lt_irrefl 64 (Int.lt_of_le_of_lt (Int.ofNat_le.mpr h) (hl _ (List.contains_iff_mem.mp q)))
 exact this _ (by decide)
theorem sp_cknamed {n x sx:Nat} {kt:V} {T:TH} {Q:V→TH→Prop} (hx:64≤x) (k:Q .none T):CallY (CN (n+2)) 15 [kt,.tup [.int (sx:Int),.int (x:Int),.tup []]] T Q:=by
 refine call_fn (fd:=fd_check_named) (by rfl) (by rfl) ?_
 refine (?_:SV _ [some kt,some (.tup [.int (sx:Int),.int (x:Int),.tup []])] _ _ _)
 repeat o_fieldsN
 refine bo_go (decide_eq_false (Int.not_le.mpr (Int.ofNat_lt.mpr (Nat.lt_of_lt_of_le (Nat.zero_lt_succ 63) hx)))) ?_
 repeat o_fieldsN
 refine ite_f (in_tid hx) ?_
 repeat o_fieldsN
 refine sp_ckargs ?_
 k_ownIn
 exact k
theorem sp_ckrow {n x sx:Nat} {kt:V} {T:TH} {Q:V→TH→Prop} (hs:sx=2∨sx=3) (hx:64≤x) (k:Q .none T):CallY (CN (n+3)) 14 [kt,.tup [.int (sx:Int),.int (x:Int),.tup []]] T Q:=by
 refine call_fn (fd:=fd_check_kind_row) (by rfl) (by rfl) ?_
 show SV _ [some kt,some (.tup [.int (sx:Int),.int (x:Int),.tup []]),none,none] _ _ _
 have h1:=@sp_rowlen (n+1) sx
 have h2:=@sp_inner (n+1) x sx
 have h3:=@sp_cknamed n x sx kt
 rcases hs with rfl|rfl
 ·k_ownIn
  refine h1 (.inl rfl) ?_
  k_ownIn
  k_ownIn
  refine h2 (.inl rfl) (.empty ?_)
  k_ownIn
  refine h3 hx ?_
  k_ownIn
  exact k
 ·k_ownIn
  refine h1 (.inr rfl) ?_
  k_ownIn
  k_ownIn
  refine h2 (.inr rfl) (.empty ?_)
  k_ownIn
  refine h3 hx ?_
  k_ownIn
  exact k
theorem lim_of {α:Type} {l:List α} {n m:Nat} (h:l.length=n) (hn:n≤m) (e:Nat.ble (m+1) 100000=true:=by rfl):l.length<limit:=h▸Nat.lt_of_le_of_lt hn (Nat.le_of_ble_eq_true e)
theorem len_up {α:Type} {l:List α} {a:α} {n:Nat} (h:l.length=n):(l++[a]).length=n+1:=by rw [List.length_append,h];rfl
noncomputable def KTp.add (p:KTp) (k:NKey) (v a b c d:V):KTp:={p with rl:=p.rl++[a],il:=p.il++[(k,v)],dl:=p.dl++[b],wl:=p.wl++[c],ol:=p.ol++[d]}
theorem KTp.Len.add {p:KTp} {n:Nat} {k:NKey} {v a b c d:V} (h:p.Len n):(p.add k v a b c d).Len (n+1):=⟨len_up h.r,len_up h.i,len_up h.d,len_up h.w,len_up h.o⟩
theorem key_ne {sx sx' x x':Nat} (h:x+1≤x'):(((sx':Int),(x':Int),true):NKey)≠((sx:Int),(x:Int),true):=fun e=>by
 have e:=Int.ofNat_inj.mp (congrArg (fun y:NKey=>y.2.1) e)
 subst e;exact Nat.lt_irrefl _ h
set_option maxHeartbeats 2000000 in
theorem sp_ktput {n kt len x0 x sx:Nat} {T:TH} {Q:V→TH→Prop} (hs:sx=2∨sx=3) (hx:64≤x) (h0:x0≤x) (hl:len≤1000) (h:KTL kt len x0 T) (k:∀ T',KTL kt (len+1) (x+1) T'→Chg (ksX [.ktl]) T T'→Q (.int (len:Nat)) T'):CallY (CN (n+4)) 10 [.obj kt,.tup [.int (sx:Int),.int (x:Int),.tup []]] T Q:=by
 obtain⟨p,F,L,hg⟩:=h.ex
 have hg':=hg sx x h0
 refine call_fn (fd:=fd_KindTable_put) (by rfl) (by rfl) ?_
 refine (?_:SV _ [some (.obj kt),some (.tup [.int (sx:Int),.int (x:Int),.tup []]),none,none,none,none,none,none,none] _ _ _)
 have h1:=F.g 0
 have h2:=F.g 1
 have h3:=F.g 2
 k_ownIn
 refine Get2Y.dt ((sx:Int),(x:Int),true) h3 ?_
 rw [hg']
 k_ownIn
 refine sp_ckrow hs hx ?_
 k_ownIn
 refine sp_level hs ?_
 k_ownIn
 k_ownIn
 refine sp_inner hs (.empty ?_)
 k_ownIn
 refine LenY.list h2 (Nat.le_of_lt (lim_of L.r hl)) ?_
 rw [L.r]
 k_ownIn
 refine⟨lim_of L.r hl,PutY.intro fun T₁ g1 c₁=>?_⟩
 have F₁:=F.put 1 rfl c₁ g1
 have kt₁:=F₁.g 0
 k_ownIn
 refine IdxPut.dt ((sx:Int),(x:Int),true) (F₁.g 2) (lim_of L.i hl) (PutY.intro fun T₂ g2 c₂=>?_)
 rw [dput_none hg'] at g2
 have F₂:=F₁.put 2 rfl c₂ g2
 have kt₂:=F₂.g 0
 have de₂:=F₂.g 3
 k_ownIn
 refine⟨lim_of L.d hl,PutY.intro fun T₃ g3 c₃=>?_⟩
 have F₃:=F₂.put 3 rfl c₃ g3
 have kt₃:=F₃.g 0
 have we₃:=F₃.g 4
 k_ownIn
 refine⟨lim_of L.w hl,PutY.intro fun T₄ g4 c₄=>?_⟩
 have F₄:=F₃.put 4 rfl c₄ g4
 have kt₄:=F₄.g 0
 have op₄:=F₄.g 5
 k_ownIn
 refine⟨lim_of L.o hl,PutY.intro fun T₅ g5 c₅=>?_⟩
 have F₅:=F₄.put 5 rfl c₅ g5
 k_ownIn
 exact k T₅ ⟨p.add ((sx:Int),(x:Int),true) _ _ _ _ _,F₅,L.add,fun sx' x' hx'=>(dget_app' (key_ne hx')).trans (hg sx' x' (Nat.le_trans h0 (Nat.le_of_succ_le hx')))⟩
  (c₅.back (c₄.back (c₃.back (c₂.back (c₁.back (.refl _ _) (side_kind h2 (by decide))) (side_kind h3 (by decide))) (side_kind (F.g 3) (by decide))) (side_kind (F.g 4) (by decide))) (side_kind (F.g 5) (by decide)))
theorem sp_class {n kt len x0 x:Nat} {T:TH} {Q:V→TH→Prop} (hx:64≤x) (h0:x0≤x) (hl:len≤1000) (h:KTL kt len x0 T) (k:∀ T',KTL kt (len+1) (x+1) T'→Chg (ksX [.ktl]) T T'→Q (.int (len:Nat)) T'):CallY (CN (n+5)) 17 [.obj kt,.int (x:Int),.tup []] T Q:=by
 obtain⟨p,F,_⟩:=h.ex
 have h1:=F.g 0
 refine call_fn (fd:=fd_class_kind) (by rfl) (by rfl) ?_
 refine (?_:SV _ [some (.obj kt),some (.int (x:Int)),some (.tup [])] _ _ _)
 have ht:=in_tid hx
 refine ite_f ht ?_
 k_ownIn
 refine sp_ktput (sx:=2) (.inl rfl) hx h0 hl h fun T' h' c'=>?_
 k_ownIn
 exact k T' h' c'
theorem sp_valk {n kt len x0 x:Nat} {T:TH} {Q:V→TH→Prop} (hx:64≤x) (h0:x0≤x) (hl:len≤1000) (h:KTL kt len x0 T) (k:∀ T',KTL kt (len+1) (x+1) T'→Chg (ksX [.ktl]) T T'→Q (.int (len:Nat)) T'):CallY (CN (n+5)) 18 [.obj kt,.int (x:Int),.tup []] T Q:=by
 obtain⟨p,F,_⟩:=h.ex
 have h1:=F.g 0
 refine call_fn (fd:=fd_value_kind) (by rfl) (by rfl) ?_
 refine (?_:SV _ [some (.obj kt),some (.int (x:Int)),some (.tup [])] _ _ _)
 refine ite_f (in_tid hx) ?_
 k_ownIn
 refine sp_ktput (sx:=3) (.inr rfl) hx h0 hl h fun T' h' c'=>?_
 k_ownIn
 exact k T' h' c'
set_option genInjectivity false
theorem pbase {B R C:List Nat}:((B++R)++C).Perm ((B++C)++R):=by rw [List.append_assoc,List.append_assoc];exact .append_left _ List.perm_append_comm
theorem pl {A X Y R:List Nat} (p:X.Perm (Y++R)):(A++X).Perm ((A++Y)++R):=by rw [List.append_assoc];exact .append_left _ p
section
variable {mi:MId} {g:MG}
theorem roots_frame {f:Fr}:(rootsW mi {g with frames:=g.frames++[f]}).Perm (rootsW mi g++f.rows):=by
 show ((g.frames++[f]).flatMap Fr.rows++_).Perm _
 rw [List.flatMap_append,List.flatMap_cons,List.flatMap_nil,List.append_nil]
 exact pbase
theorem roots_st {p:Int×Nat}:(rootsW mi {g with statics:=g.statics++[p]}).Perm (rootsW mi g++[p.2]):=by
 show (_++((g.statics++[p]).map (·.2)++_)).Perm _
 rw [List.map_append];exact pl pbase
theorem roots_chase {c:Chs}:(rootsW mi {g with chases:=g.chases++[c]}).Perm (rootsW mi g++[c.rid]):=by
 show (_++(_++((g.chases++[c]).map Chs.rid++_))).Perm _
 rw [List.map_append];exact pl (pl pbase)
theorem roots_held {r:Nat}:(rootsW mi {g with held:=g.held++[r]}).Perm (rootsW mi g++[r]):=pl (pl (pl (pl pbase)))
theorem roots_fail {p:Int×Nat}:(rootsW mi {g with fails:=g.fails++[p]}).Perm (rootsW mi g++[p.2]):=by
 show (_++(_++(_++(_++(_++((g.fails++[p]).map (·.2)++_)))))).Perm _
 rw [List.map_append];exact pl (pl (pl (pl (pl pbase))))
end
theorem sp_drop {n:Nat} {i:WId} {f:WN} {ts:List Th} {cells:List Ce} {t:Tg} {T:TH} {Q:V→TH→Prop} (hw:T[i.w]?=some (.w,i.obj f)) (hce:T[i.ce]?=some (.ce,.list (cells.map Ce.v))) (hcl:cells.length≤1600)
  (k:∀ ce' T₁ T',Chg noX T T₁→T'[ce']?=some (.ce,.list ((dropC cells t).map Ce.v))→T'[i.w]?=some (.w,WId.obj {i with ce:=ce'} f)→Chg (oneX i.w) T₁ T'→Q .none T'):CallY (CN (n+1)) 75 [.obj i.w,.str t.s] T Q:=by
 refine call_fn (fd:=fd_law_drop) (by rfl) (by rfl) ?_
 refine (?_:SV _ [some (.obj i.w),some (.str t.s)] _ _ _)
 k_ownIn
 refine CompY.mk .ce (fun x=>match x with|.tup [.str a,_,_]=>if (!decide (a=t.s)) then some x else none|_=>none) hce (lmLe hcl) (fun x T' hx c=>?_) ?_
 ·obtain⟨c,hc,rfl⟩:=List.mem_map.mp hx
  refine ItemC.cond (p:=!decide (c.tag=t.s)) ?_ ?_
  ·unfold Ce.v
   k_ownIn
   exact⟨by by_cases q:c.tag=t.s<;>simp [q],rfl⟩
  ·k_ownIn
   exact⟨rfl,rfl⟩
 rw [filterMap_if (p:=fun c:Ce=>!decide (c.tag=t.s)) (k:=Ce.v) fun r _=>rfl]
 refine NewY.intro fun ce' T₁ hn₁ h₁ c₁=>?_
 have hw₁:=c₁.keep hw
 k_ownIn
 rename_i T₂ h₂ c₂
 exact k ce' T₁ T₂ c₁ (c₂.otherK h₁ h₂ (by decide)) h₂ c₂
theorem sp_Chase {n c:Nat} {num v a b:V} {T:TH} {Q:V→TH→Prop} (h0:T[c]?=some (.ch,.inst 11 [])) (k:∀ rid xs T',T[rid]?=none→T'[rid]?=some (.real,.list [v])→T'[c]?=some (.ch,Chs.obj ⟨c,rid,num,xs⟩)→Chg (oneX c) T T'→Q .none T'):CallY (CN (n+1)) 67 [.obj c,num,v,a,b] T Q:=by
 refine call_fn (fd:=fd_Chase_init) (by rfl) (by rfl) ?_
 refine (?_:SV _ [some (.obj c),some num,some v,some a,some b] _ _ _)
 k_ownIn
 refine AnyK.mk .real ?_
 k_ownIn
 rename_i T₁ h₁ c₁ i T₂ hn₂ h₂ c₂ a1 a2 a3 b1 b2 b3 d1 d2 d3 e1 e2 e3 f1 f2 f3 g1 g2 g3 m1 m2 m3 T₉ h₉ c₉
 exact k i [a,.int 1,b,.int 0,.none,.int 0,.int (-1)] T₉ (none_back hn₂ (c₁.weaken fun _ _ _=>trivial)) (c₉.otherK h₂ h₉ (by decide)) h₉ (c₉.back (c₂.back c₁ side_no) side_same)
theorem num_len:∀ m:Nat,m<64→(Str.ofString (toString (m:Int))).length≤20:=by decide +kernel
theorem BinY.tag {p:Str} {m:Nat} {Q:V→Prop} (hm:m<64) (hp:p.length≤20) (h:Q (.str (p++Str.ofString (toString (m:Int))))):BinY Q .add (.str p) (.str (Str.ofString (toString (m:Int)))) :=
 .str (Nat.le_trans (Nat.add_le_add hp (num_len m hm)) (Nat.le_of_ble_eq_true rfl)) h
section
variable {n k r pid z wb:Nat} {s:Gs} {T:TH} {tt:Tg} {fs:List Nat} {specs:List Spec} {Q:V→TH→Prop}
theorem wld_fill (w:Mem k s T) (hk:k+1≤180) (hr:r∈s.ex) (hfs:∀ x∈fs,x≤6) (hfl:0<fs.length∧fs.length≤10)
  (q:∀ f' hf' ts' specs pid T',Mem (k+1) (s.ad f' hf' ts' ⟨tt.s,specs,r,pid⟩) T'→NGrow s.f f' 4→Chg (fillX r s.i.ce) T T'→Q .none T') (e:s.i.w=wb:=by rfl):CallY (CN (n+5)) 74 [.obj wb,.str tt.s,.obj r,.int z,.tup (fs.map fun x:Nat=>.int (x:Int))] T Q:=by
 subst e
 have b:=w.bd
 have hnd:=(List.nodup_append.mp w.nd).2.2
 exact sp_fill w.W w.C (leL b.made rfl) (leL b.cel rfl) (w.exs r hr) (fun q=>hnd _ q _ hr rfl) (fun q=>w.rdy (q▸List.mem_append_right _ hr)) hfs hfl fun f' hf' ts' specs pid T' W' C' g1 g2 g3 c=>q f' hf' ts' specs pid T' (w.add hk hr W' C' g1 (Nat.le_of_ble_eq_true rfl) c) g1 c
theorem wld_put (w:Mem k s T) (hk:k+1≤180) (hr:r∈s.ex) (hp:T[pid]?=some (.cspec,.list (specs.map Spec.v))) (hok:∀ x∈specs,x.Ok s.ts) (hl:specs.length≤10) (hpn:pid∉s.cells.map Ce.pid)
  (q:∀ T',Mem (k+1) (s.ad s.f s.hf s.ts ⟨tt.s,specs,r,pid⟩) T'→Chg (rowX1 r s.i.ce) T T'→Q .none T') (e:s.i.w=wb:=by rfl):CallY (CN (n+2)) 73 [.obj wb,.str tt.s,.obj r,.obj pid] T Q:=by
 subst e
 have b:=w.bd
 have hnd:=(List.nodup_append.mp w.nd).2.2
 exact sp_lput w.W w.C (leL b.cel rfl) (w.exs r hr) hp hok hl (fun q=>hnd _ q _ hr rfl) hpn (fun q=>w.rdy (q▸List.mem_append_right _ hr)) fun T' W' C' c=>q T' (w.add (m:=0) hk hr W' C' (.refl _ _) (Nat.zero_le _) (c.weaken fun _ _ q=>.inr q)) c
theorem fresh_ok {f':WN} {ts':List Th} (g3:1≤f'.made) (h:∃ t∈ts',t.ser=f'.made∧t.specs.length=2):Spec.Ok ⟨0,f'.made,0⟩ ts':=by
 obtain⟨t,ht,g4,_⟩:=h
 exact⟨Nat.zero_le _,Nat.zero_le _,fun _=>⟨Nat.zero_lt_succ 3,t,ht,g4,fun h=>nomatch h⟩,fun _=>g3⟩
theorem sp_newest (w:Mem k s T) (tg:∀ c∈s.cells,∀ p∈s.cm,c.tag=(Tg.ch p.1).s→0<c.specs.length) (hcm:s.g.chases=s.cm.map (·.2))
  (q:∀ f' hf' ts' (sp:Spec) T',HW s.i f' s.h hf' ts' T'→NGrow s.f f' 2→Grow s.ts ts'→sp.Ok ts'→Chg freshX T T'→Q sp.v T') (e:s.i.w=wb:=by rfl):CallY (CN (n+5)) 76 [.obj wb] T Q:=by
 subst e
 refine call_fn (fd:=fd_law_newest) (by rfl) (by rfl) ?_
 refine (?_:SV _ [some (.obj s.i.w),none,none,none] _ _ _)
 have hw:=w.W.bk.w
 obtain⟨hd,A,_⟩:=w.H.P
 have hfl:=A.g 8
 have b:=w.bd
 have hcl:s.cm.length≤200:=by have:=b.ch;rw [hcm,List.length_map] at this;exact this
 k_ownIn
 refine ForY.gh (G:=Option V×Option V×Option V) (fun x=>[some (.obj s.i.w),x.1,x.2.1,x.2.2]) (fun _ _ T'=>T'=T) w.C.ce (none,none,none) rfl (fun Q' j x v T' hv hT _ next ret=>?_) fun x T' hT _=>?_
 ·subst hT
  rw [List.getElem?_map] at hv
  obtain⟨c,hc,rfl⟩:=Option.map_eq_some_iff.mp hv
  have hcm':=List.mem_of_getElem? hc
  have hsp:=w.C.spec c hcm'
  k_ownIn
  refine LenY.map hfl hcl ?_
  cases hl:s.cm.getLast? with
  | none =>
   have:s.cm.length=0:=by rw [List.getLast?_eq_none_iff.mp hl];rfl
   k_ownIn
   exact next (_,_,_) T' rfl w.C.ce
  | some p =>
   have hpos:0<s.cm.length:=List.length_pos_iff.mpr fun e=>by rw [e] at hl;cases hl
   have hpm:p∈s.cm:=List.mem_of_getLast? hl
   repeat o_fieldsN
   refine bo_go (decide_eq_true (Int.ofNat_lt.mpr hpos)) ?_
   k_ownIn
   refine IdxY.list hfl (at_last (v:=.str (Tg.ch p.1).s) (by rw [List.getLast?_map,hl];rfl) (lmLe hcl)) ?_
   k_ownIn
   refine⟨fun hb=>?_,fun hb=>?_⟩
   ·have e:c.tag=(Tg.ch p.1).s:=eq_of_beq hb
    have h1:=tg c hcm' p hpm e
    obtain⟨sp,rest,e2⟩:=List.exists_cons_of_length_pos h1
    rw [e2] at hsp
    k_ownIn
    exact ret _ _ _ (q _ _ _ sp _ w.W (.refl _ _) (.refl _) (w.C.ok c hcm' sp (by rw [e2];exact .head _)) (.refl _ _))
   ·k_ownIn
    exact next (_,_,_) T' rfl w.C.ce
 ·subst hT
  k_ownIn
  refine sp_fresh (z:=0) w.W (leL b.made rfl) fun f' hf' ts' T₂ W₂ g1 g2 g3 h c₂=>?_
  k_ownIn
  exact q f' hf' ts' ⟨0,f'.made,0⟩ T₂ W₂ g1 g2 (fresh_ok g3 h) c₂
end
set_option genInjectivity false
inductive Seg (k:Nat) (T:TH):Nat→Nat→Nat→MId→List Nat→List (Int×Nat)→Prop
 | mk (s:Gs):Mem k s T→s.Tgs→s.pend=[]→Seg k T s.i.w s.i.m s.i.scr s.mi s.ex s.g.statics
theorem Mem.seg {k:Nat} {s:Gs} {T:TH} (w:Mem k s T) (tg:s.Tgs) (hp:s.pend=[]):Seg k T s.i.w s.i.m s.i.scr s.mi s.ex s.g.statics:=.mk s w tg hp
@[elab_as_elim] theorem Seg.on {k:Nat} {T:TH} {w m scr:Nat} {mi:MId} {ex:List Nat} {st:List (Int×Nat)} {P:Nat→Nat→Nat→MId→List Nat→List (Int×Nat)→Prop} (h:Seg k T w m scr mi ex st) (c:∀ s:Gs,Mem k s T→s.Tgs→s.pend=[]→P s.i.w s.i.m s.i.scr s.mi s.ex s.g.statics):P w m scr mi ex st:=by
 cases h with|mk s w tg hp=>exact c s w tg hp
theorem TgW.ct {c c' iv:Nat} {g:MG} {cells:List Ce} {cm:List (Nat×Chs)} {tx:List Nat} (t:TgW c iv g cells cm tx) (h:c'=c):TgW c' iv g cells cm tx:=h▸t
section
variable {n k z w m scr:Nat} {mi:MId} {ex:List Nat} {st:List (Int×Nat)} {T:TH} {Q:V→TH→Prop}
theorem Seg.up (h:Seg k T w m scr mi ex st) (d:Nat) (hk:k+d≤180):Seg (k+d) T w m scr mi ex st:=by
 exact h.on fun s w tg hp=>(w.up d hk).seg tg hp
theorem Seg.le {k':Nat} (h:Seg k T w m scr mi ex st) (hk:k≤k') (hk':k'≤180):Seg k' T w m scr mi ex st:=by
 obtain⟨d,rfl⟩:=Nat.exists_eq_add_of_le hk
 exact h.up d hk'
theorem Seg.num (h:Seg k T w m scr mi ex st) (hk:k+1≤180) (q:∀ (z:Nat) T',Seg (k+1) T' w m scr mi ex st→Q (.int z) T'):CallY (CN (n+1)) 69 [.obj w] T Q:=by
 revert q
 refine h.on fun s w tg hp q=>?_
 exact w.H.P.elim fun hd a=>sp_number w.W.bk.w ⟨a.1.g 7,w.nsl⟩ (leL w.bd.at_ rfl) fun z T' hz h c=>q z T' ((w.setw 1 hk h c rfl rfl (Nat.le_refl _) (Nat.le_add_right _ _)).seg tg hp)
theorem Seg.fresh (h:Seg k T w m scr mi ex st) (hk:k+1≤180) (q:∀ v T',Seg (k+1) T' w m scr mi ex st→Q v T'):CallY (CN (n+4)) 72 [.obj w,.int z] T Q:=by
 revert q
 refine h.on fun s w tg hp q=>?_
 exact sp_fresh w.W (leL w.bd.made rfl) fun f' hf' ts' T' W' g1 g2 g3 _ c=>q _ T' ((w.fresh hk W' g1 (Nat.le_of_ble_eq_true rfl) g2 c).seg (TgW.ct tg g1.count) hp)
end
theorem str_ok {m:Nat} (h:m≤1000):0≤(m:Int)∧(m:Int)<1000000000:=⟨Int.natCast_nonneg m,Int.ofNat_lt.mpr (Nat.lt_of_le_of_lt h (Nat.le_of_ble_eq_true rfl))⟩
theorem erase_last {l:List Nat} {r:Nat} (h:r∉l):(l++[r]).erase r=l:=by
 rw [List.erase_append_right _ h,List.erase_cons_head,List.append_nil]
theorem one_mem {α:Type} {a:α} {P:α→Prop} (h:P a):∀ x∈[a],P x:=fun x hx=>List.mem_singleton.mp hx▸h
set_option maxHeartbeats 2000000 in
theorem Seg.fly {n k z w m scr:Nat} {mi:MId} {ex:List Nat} {st:List (Int×Nat)} {T:TH} {Q:V→TH→Prop} (h:Seg k T w m scr mi ex st) (hk:k+5≤180) (q:∀ T',Seg (k+5) T' w m scr mi ex st→Q .none T'):CallY (CN (n+5)) 77 [.obj w,.int z] T Q:=by
 revert q
 refine h.on fun s w tg hp q=>?_
 refine call_fn (fd:=fd_law_fly) (by rfl) (by rfl) ?_
 refine (?_:SV _ [some (.obj s.i.w),some (.int z),none,none,none] _ _ _)
 have b:=w.bd
 have hw:=w.W.bk.w
 k_ownIn
 refine⟨str_ok (leL (Nat.succ_le_succ b.cnt) rfl),BinY.tag (ltL (Nat.succ_le_succ b.cnt) rfl) (by decide) ?_⟩
 rename_i T₁ h₁ c₁
 have w₁:Mem (k+3) (s.nu {s.f with count:=s.f.count+1} s.hf s.ts) T₁:=w.setw (f':={s.f with count:=s.f.count+1}) 3 (Nat.le_trans (Nat.le_add_right _ 2) hk) h₁ c₁ rfl rfl (Nat.le_add_right _ _) (Nat.le_refl _)
 k_ownIn
 refine sp_fresh w₁.W (leL b.made rfl) fun f' hf' ts' T₂ W₂ g1 g2 g3 hf c₂=>?_
 have w₂:Mem (k+4) (s.nu f' hf' ts') T₂:=w₁.fresh (Nat.le_trans (Nat.le_add_right _ 1) hk) W₂ g1 (Nat.le_of_ble_eq_true rfl) g2 c₂
 have ok:=fresh_ok g3 hf
 have hw₂:=W₂.bk.w
 obtain⟨hd,A,_⟩:=w₂.H.P
 have mm:=A.g 0
 have chs:=A.g 2
 have fl:=A.g 8
 have ce:=w₂.C.ce
 have hcl:s.cm.length≤200:=by have:=b.ch;rw [tg.chm,List.length_map] at this;exact this
 k_ownIn
 refine AnyK.mk .ch ?_
 k_ownIn
 refine sp_value (s:=⟨0,f'.made,0⟩) hw₂ W₂.bk.wh ok ?_
 k_ownIn
 rename_i co T₃ hn₃ h₃ c₃
 refine sp_Chase h₃ fun rid xs T₄ hn₄ hr₄ h₄ c₄=>⟨rfl,?_⟩
 have c₂₄:Chg noX T₂ T₄:=c₄.fresh c₃ hn₃
 have hw₄:=c₂₄.keep hw₂
 have mm₄:=c₂₄.keep mm
 have chs₄:=c₂₄.keep chs
 k_ownIn
 refine⟨lmL b.ch,PutY.intro fun T₅ h₅ c₅=>?_⟩
 have fl₅:=c₅.otherK (c₂₄.keep fl) h₅ (by decide)
 k_ownIn
 refine⟨lmL hcl,PutY.intro fun T₆ h₆ c₆=>?_⟩
 have ce₆:=c₆.otherK (c₅.otherK (c₂₄.keep ce) h₅ (by decide)) h₆ (by decide)
 k_ownIn
 refine AnyK.mk .cspec ?_
 k_ownIn
 rename_i pid T₇ hn₇ h₇ c₇
 refine⟨lmL b.cel,PutY.intro fun T₈ h₈ c₈=>?_⟩
 have q₆:OffP [1,2,3,5,7,11,12,13,14,24,25,26,27,29,30,31,32] T₄ T₆:=(OffP.one c₅ h₅).tr (OffP.one c₆ h₆)
 have q₈:OffP [1,2,3,5,7,11,12,13,14,19,22,24,25,26,29,30,31,32] T₆ T₈:=(OffP.no c₇).tr (OffP.one c₈ h₈)
 let c:Chs:=⟨co,rid,.int (f'.count:Nat),xs⟩
 have e1:T₅[s.mi.chs]?=some (.chs,.list ((s.g.chases++[c]).map fun c=>.obj c.id)):=by rw [List.map_append];exact h₅
 have e2:T₆[s.i.fl]?=some (.fl,.list ((s.cm++[(s.f.count+1,c)]).map fun p=>.str (Tg.ch p.1).s)):=by rw [List.map_append];exact h₆
 have H:=((((w₂.H.off (OffP.no c₂₄)).put 2 c₅ e1).put 8 c₆ e2).off ((OffP.no c₇).tr (OffP.one c₈ h₈))).fam (fun _ h=>.inl h) (ch':=s.g.chases++[c]) (one_snoc (fun _ h=>.inl h) (.inr (q₈.g (q₆.g h₄ rfl) rfl)))
 have hnp:=none_back hn₇ (c₆.back (c₅.back (c₂₄.weaken fun _ _ _=>trivial) side_any) side_any)
 have w₈:=w₂.cell (c:=⟨(Tg.ch (s.f.count+1)).s,[⟨0,f'.made,0⟩],rid,pid⟩) (g':={s.g with chases:=s.g.chases++[c]}) (cm':=s.cm++[(s.f.count+1,c)]) hk ((OffP.no c₂₄).tr ((q₆.sub).tr q₈.sub)) H (none_back hn₄ (c₃.weaken fun _ _ _=>trivial)) hnp (by rw [List.map_append];exact h₈) (q₈.g (q₆.g hr₄ rfl) rfl) (c₈.otherK h₇ h₈ (by decide)) (one_mem ok) (Nat.le_of_ble_eq_true rfl) roots_chase rfl (w₂.N.up 1 (h4:=len_snoc) (h6:=len_snoc) nl nl nl nl nl nl)
 have tg':=tg.chase (ltL (Nat.succ_le_succ b.cnt) rfl) (ltL b.he rfl) (c:=c) (specs:=[⟨0,f'.made,0⟩]) (pid:=pid) (Nat.succ_pos _)
 k_ownIn
 exact q T₈ (w₈.seg (tg'.ct g1.count) hp)
set_option genInjectivity false
theorem Mem.segx {k:Nat} {s:Gs} {T:TH} {ex:List Nat} (w:Mem k s T) (tg:s.Tgs) (hp:s.pend=[]) (he:s.ex=ex):Seg k T s.i.w s.i.m s.i.scr s.mi ex s.g.statics:=he▸.mk s w tg hp
theorem LenY.mapN {α:Type} {T:TH} {o n m:Nat} {k:K} {l:List α} {f:α→V} {Q:Nat→Prop} (e:T[o]?=some (k,.list (l.map f))) (h:l.length=m) (hb:m≤n) (q:Q m) (b:Nat.ble (n+1) 100000=true:=by rfl):LenY T Q (.obj o):=.map e (h▸hb) (h▸q) b
theorem last_map {α β:Type} {l:List α} {a:α} {f:α→β}:((l++[a]).map f).getLast?=some (f a):=by rw [List.map_append];exact List.getLast?_concat
theorem len1 {α:Type} {l:List α} {a:α}:(l++[a]).length=l.length+1:=List.length_append
theorem get_snoc' {α:Type} {l:List α} {x y:α} {i:Nat} (e:(l++[x])[i]?=some y):l[i]?=some y∨l.length=i∧x=y:=by
 rcases Nat.lt_trichotomy i l.length with h|h|h
 ·rw [List.getElem?_append_left h] at e;exact .inl e
 ·subst h;rw [List.getElem?_concat_length] at e;exact .inr ⟨rfl,Option.some.inj e⟩
 ·rw [List.getElem?_eq_none (by rw [List.length_append];exact h)] at e;cases e
theorem TgW.addh {count iv r pid:Nat} {g:MG} {cells:List Ce} {cm:List (Nat×Chs)} {tx:List Nat} {specs:List Spec} (t:TgW count iv g cells cm tx) (hc:count<64) (hh:g.held.length+1<64):TgW count iv {g with held:=g.held++[r]} (cells++[⟨(Tg.he (g.held.length+1)).s,specs,r,pid⟩]) cm tx:=by
 refine t.add (tt:=.he (g.held.length+1)) hh hc (Nat.lt_of_succ_lt hh) rfl rfl (fun _=>tne) (fun _ _=>tne) (fun _ _=>tne) (fun j r' hj=>?_) (fun m h1 h2=>?_)
 ·have hj:(g.held++[r])[j]?=some r':=hj
  rcases get_snoc' hj with h|⟨h,h'⟩
  ·exact .inl ⟨h,fun e=>Nat.lt_irrefl j (Nat.succ.inj (Tg.he.inj e)▸(List.getElem?_eq_some_iff.mp h).1)⟩
  ·subst h h'
   exact .inr ((rows_same (tt:=.he (g.held.length+1)) hh).trans (by rw [t.hew _ (Nat.lt_succ_self _) hh];rfl))
 ·have h1:g.held.length+1<m:=len1 (a:=r)▸h1
  exact⟨Nat.lt_of_succ_lt h1,fun e=>Nat.lt_irrefl m (Tg.he.inj e▸h1)⟩
section
variable {n k z w m scr:Nat} {mi:MId} {ex:List Nat} {st:List (Int×Nat)} {T:TH} {Q:V→TH→Prop}
set_option maxHeartbeats 2000000 in
theorem Seg.hold (h:Seg k T w m scr mi ex st) (hk:k+4≤180) (q:∀ T',Seg (k+4) T' w m scr mi ex st→Q .none T'):CallY (CN (n+6)) 80 [.obj w,.int z] T Q:=by
 revert q
 refine h.on fun s w tg hp q=>?_
 refine call_fn (fd:=fd_law_hold) (by rfl) (by rfl) ?_
 refine (?_:SV _ [some (.obj s.i.w),some (.int z)] _ _ _)
 have b:=w.bd
 have hw:=w.W.bk.w
 obtain⟨hd,A,_⟩:=w.H.P
 have mm:=A.g 0
 have hes:=A.g 5
 k_ownIn
 refine AnyK.mk .real ?_
 k_ownIn
 rename_i r T₁ hn₁ h₁ c₁
 refine⟨lmL b.he,PutY.intro fun T₂ h₂ c₂=>?_⟩
 have e:T₂[s.mi.hes]?=some (.hes,.list ((s.g.held++[r]).map .obj)):=by rw [List.map_append];exact h₂
 have w₂:Mem (k+3) (s.mo {s.g with held:=s.g.held++[r]} s.pend [r]) T₂:=w.more 3 (Nat.le_of_succ_le hk) ((OffP.no c₁).tr (.one c₂ h₂)) ((w.H.off (.no c₁)).put 5 c₂ e) (one_mem hn₁) (one_mem (c₂.otherK h₁ h₂ (by decide))) (List.pairwise_singleton ..) ((List.Perm.append_right _ roots_held).trans pbase) w.fks (w.N.up 3 (h8:=by rw [len1];exact Nat.le_refl _) nl nl nl nl nl nl nl)
 have hw₂:=c₂.otherK (c₁.keep hw) h₂ (by decide)
 have mm₂:=c₂.otherK (c₁.keep mm) h₂ (by decide)
 have bh:=Nat.succ_le_succ b.he
 clear c₁ c₂ h₂
 k_ownIn
 refine LenY.mapN e len1 bh ?_
 k_ownIn
 refine⟨str_ok (leL bh rfl),BinY.tag (ltL bh rfl) (by decide) ?_⟩
 k_ownIn
 refine IdxY.list e (at_last last_map (lmLe (Nat.le_trans (Nat.le_of_eq len1) bh))) ?_
 k_ownIn
 refine wld_fill (tt:=.he (s.g.held.length+1)) (fs:=[0,1,2,3,4,5,6]) w₂ hk (List.mem_append_right _ (List.mem_singleton.mpr rfl)) (by decide) (by decide) fun f' hf' ts' specs pid T₃ w₃ g1 c₃=>?_
 have tg':=tg.addh (r:=r) (specs:=specs) (pid:=pid) (ltL b.cnt rfl) (ltL bh rfl)
 k_ownIn
 exact q T₃ (w₃.segx (tg'.ct g1.count) hp (erase_last fun q=>(w.free hn₁).1 (List.mem_append_right _ q)))
end
theorem Hq.setkt {L:V→List (Nat×K×O)} {fr:List Fr} {ch:List Chs} {kt nf nf':Nat} {T T':TH} (H:Hq L fr ch kt nf T) (q:OffP [2,6,7,8,9,10,16,17,18,19,20,21,22,23,28] T T') (k':KTW kt nf' T') (h:∀ hd,(L hd).all (fun x=>kin [2,6,7,8,9,10,16,17,18,19,20,21,22,23,28] x.2.1)=true:=by exact fun _=>rfl):Hq L fr ch kt nf' T' :=
 ⟨H.P.elim fun hd a=>⟨hd,a.1.off q (h hd),a.2.off q⟩,fun f hf=>q.g (H.fr f hf) rfl,fun f hf=>q.g (H.ch f hf) rfl,k'⟩
theorem IdxPut.dn {T:TH} {o:Nat} {k:K} {l:List (Int×V)} {i:Int} {v:V} {Q:TH→Prop} (e:T[o]?=some (k,.di l)) (hl:l.length<limit) (hn:∀ p∈l,p.1≠i) (h:PutY T o k (.di (l++[(i,v)])) Q):IdxPut T o v Q (.int i):=.di e hl (by rw [dput_new hn];exact h)
theorem di_ne {l:List (Int×Nat)} {i:Int} (h:∀ p∈l,p.1≠i):∀ p∈diOf l,p.1≠i:=fun p hp=>(List.mem_map.mp hp).elim fun x hx=>hx.2▸h x hx.1
theorem fails_new {l:List (Int×Nat)} (h:l.map (·.1)=(List.range l.length).map fun j=>((20+j:Nat):Int)):∀ p∈l,p.1≠((20+l.length:Nat):Int):=fun p hp e=>by
 have:p.1∈l.map (·.1):=List.mem_map_of_mem hp
 rw [h] at this
 obtain⟨j,hj,e'⟩:=List.mem_map.mp this
 exact Nat.lt_irrefl _ (Nat.add_left_cancel (Int.ofNat_inj.mp (e'.trans e))▸List.mem_range.mp hj)
theorem fks_snoc {l:List (Int×Nat)} {r:Nat} (h:l.map (·.1)=(List.range l.length).map fun j=>((20+j:Nat):Int)):(l++[(((20+l.length:Nat):Int),r)]).map (·.1)=(List.range (l++[(((20+l.length:Nat):Int),r)]).length).map fun j=>((20+j:Nat):Int):=by
 rw [len1,List.map_append,h,List.range_succ,List.map_append];rfl
theorem none_ks {ks:List K} {T T':TH} {r:Nat} (c:Chg (ksX ks) T T') (h:T'[r]?=none):T[r]?=none:=none_back h (c.weaken fun _ _ _=>trivial)
set_option maxHeartbeats 2000000 in
theorem Seg.fail {n k z w m scr:Nat} {mi:MId} {ex:List Nat} {st:List (Int×Nat)} {T:TH} {Q:V→TH→Prop} (h:Seg k T w m scr mi ex st) (hk:k+3≤180) (q:∀ T',Seg (k+3) T' w m scr mi ex st→Q .none T'):CallY (CN (n+7)) 79 [.obj w,.int z] T Q:=by
 revert q
 refine h.on fun s w tg hp q=>?_
 refine call_fn (fd:=fd_law_fail) (by rfl) (by rfl) ?_
 refine (?_:SV _ [some (.obj s.i.w),some (.int z),none,none] _ _ _)
 have b:=w.bd
 have hw:=w.W.bk.w
 obtain⟨hd,A,_⟩:=w.H.P
 have mm:=A.g 0
 have fas:=A.g 4
 have hne:=fails_new w.fks
 k_ownIn
 refine LenY.dim fas b.fa ?_
 k_ownIn
 refine sp_class (x:=70+s.g.fails.length) (Nat.le_trans (by decide) (Nat.le_add_right 70 _)) (Nat.le_refl _) (Nat.le_trans (Nat.add_le_add_left b.fa 20) (by decide)) w.H.kt fun T₁ kt₁ c₁=>?_
 have fas₁:=c₁.get fas (nk (by decide))
 have mm₁:=c₁.get mm (nk (by decide))
 have hw₁:=c₁.get hw (nk (by decide))
 k_ownIn
 refine AnyK.mk .real ?_
 k_ownIn
 rename_i r T₂ hn₂ h₂ c₂
 refine IdxPut.dn (c₂.keep fas₁) (lmL b.fa) (di_ne hne) (PutY.intro fun T₃ h₃ c₃=>?_)
 have e3:T₃[s.mi.fas]?=some (.fas,.di (diOf (s.g.fails++[(((20+s.g.fails.length:Nat):Int),r)]))):=by unfold diOf;rw [List.map_append];exact h₃
 have hnr:=none_ks c₁ hn₂
 have q₁:OffP [1,2,3,5,6,7,8,9,10,11,12,13,14,16,17,18,19,20,21,22,23,24,25,26,27,28,29,30,31,32] T T₂:=(OffP.ks c₁).tr (.no c₂)
 have q₃:OffP [1,2,3,5,6,7,8,9,10,11,12,13,14,16,17,18,19,21,22,23,24,25,26,27,28,29,30,31,32] T₂ T₃:=.one c₃ h₃
 have w₃:Mem (k+1) (s.mo {s.g with fails:=s.g.fails++[(((20+s.g.fails.length:Nat):Int),r)]} s.pend [r]) T₃:=w.more 1 (Nat.le_trans (Nat.le_add_right _ 2) hk) (q₁.sub.tr q₃.sub)
  (by rw [len1];exact (w.H.setkt (nf':=s.g.fails.length+1) q₁.sub (kt₁.off (OffP.no (p:=[4,33]) c₂))).put 4 c₃ e3) (one_mem hnr) (one_mem (q₃.g h₂ rfl)) (List.pairwise_singleton ..) ((List.Perm.append_right _ roots_fail).trans pbase) (fks_snoc w.fks) (w.N.up 1 (h7:=len_snoc) nl nl nl nl nl nl nl)
 have hw₃:=q₃.g (c₂.keep hw₁) rfl
 have mm₃:=q₃.g (c₂.keep mm₁) rfl
 clear c₁ c₃ q₁ q₃ e3
 k_ownIn
 refine IdxY.di h₃ (dget_new (v:=.obj r) (di_ne hne)) ?_
 k_ownIn
 refine AnyK.mk .cspec ?_
 k_ownIn
 refine sp_fresh w₃.W (leL b.made rfl) fun f' hf' ts' T₄ W₄ g1 g2 g3 hf c₄=>?_
 have w₄:Mem (k+2) ((s.mo {s.g with fails:=s.g.fails++[(((20+s.g.fails.length:Nat):Int),r)]} s.pend [r]).nu f' hf' ts') T₄:=w₃.fresh (Nat.le_of_succ_le hk) W₄ g1 (Nat.le_of_ble_eq_true rfl) g2 c₄
 k_ownIn
 rename_i pid T₅ hn₅ h₅ c₅
 refine wld_put (tt:=.fa) (specs:=[⟨0,f'.made,0⟩]) (w₄.chg0 c₅) hk (List.mem_append_right _ (List.mem_singleton.mpr rfl)) h₅ (one_mem (fresh_ok g3 hf)) (Nat.le_of_ble_eq_true rfl) (w₄.free hn₅).2.2 fun T₆ w₆ c₆=>?_
 have tg':=tg.addp (tt:=.fa) (g':={s.g with fails:=s.g.fails++[(((20+s.g.fails.length:Nat):Int),r)]}) (specs:=[⟨0,f'.made,0⟩]) (r:=r) (pid:=pid) rfl (ltL b.cnt rfl) (ltL b.he rfl) rfl rfl rfl
 k_ownIn
 exact q T₆ (w₆.segx (tg'.ct g1.count) hp (erase_last fun q=>(w.free hnr).1 (List.mem_append_right _ q)))
set_option genInjectivity false
noncomputable def statB:List S:=match fd_law.body.drop 12 with
 | .forR _ _ b::_=>b
 | _=>[]
theorem kinds_at {T:TH} {j:Nat} {kd:Int} {Q:V→Prop} (hj:(j=0∧kd=17)∨(j=1∧kd=16)) (h:Q (.int kd)):IdxY T Q kindsV (.int (1-(j:Int))):=by
 rcases hj with ⟨rfl,rfl⟩|⟨rfl,rfl⟩
 ·exact .tup1 h
 ·exact .tup0 h
set_option maxHeartbeats 4000000 in
theorem Seg.st {n k z j w m scr:Nat} {mi:MId} {ex:List Nat} {st:List (Int×Nat)} {kd:Int} {T:TH} {a b x:Option V} {Q:Option V×Rho→TH→Prop} (h:Seg k T w m scr mi ex st) (hk:k+2≤180) (hj:(j=0∧kd=17)∨(j=1∧kd=16)) (hst:st.length≤1) (hnew:∀ p∈st,p.1≠kd)
  (q:∀ r T',Seg (k+2) T' w m scr mi ex (st++[(kd,r)])→Q (none,[a,b,some (.obj m),some (.obj w),some (.int z),some (.int j),x]) T') :
  SV (CN (n+6)) [a,b,some (.obj m),some (.obj w),some (.int z),some (.int j),x] statB T Q:=by
 revert q hst hnew
 refine h.on fun s w tg hp hst hnew q=>?_
 unfold statB fd_law
 dsimp only [List.drop]
 have bd:=w.bd
 have hw:=w.W.bk.w
 obtain⟨hd,A,_⟩:=w.H.P
 have mm:=A.g 0
 have sts:=A.g 3
 k_ownIn
 refine AnyK.mk .real ?_
 k_ownIn
 rename_i r T₁ hn₁ h₁ c₁
 refine kinds_at hj ?_
 refine IdxPut.dn (c₁.keep sts) (lmL hst) (di_ne hnew) (PutY.intro fun T₂ h₂ c₂=>?_)
 have e:T₂[s.mi.sts]?=some (.sts,.di (diOf (s.g.statics++[(kd,r)]))):=by unfold diOf;rw [List.map_append];exact h₂
 have w₂:Mem (k+1) (s.mo {s.g with statics:=s.g.statics++[(kd,r)]} s.pend [r]) T₂:=w.more 1 (Nat.le_of_succ_le hk) ((OffP.no c₁).tr (.one c₂ h₂)) ((w.H.off (.no c₁)).put 3 c₂ e) (one_mem hn₁) (one_mem (c₂.otherK h₁ h₂ (by decide))) (List.pairwise_singleton ..) ((List.Perm.append_right _ roots_st).trans pbase) w.fks (w.N.up 1 nl nl nl nl nl nl nl nl)
 have hw₂:=c₂.otherK (c₁.keep hw) h₂ (by decide)
 have mm₂:=c₂.otherK (c₁.keep mm) h₂ (by decide)
 clear c₁ c₂ e
 k_ownIn
 refine kinds_at hj ?_
 refine IdxY.di h₂ (dget_new (v:=.obj r) (di_ne hnew)) ?_
 k_ownIn
 refine wld_fill (tt:=.st) (fs:=[0,2,3,4]) w₂ hk (List.mem_append_right _ (List.mem_singleton.mpr rfl)) (by decide) (by decide) fun f' hf' ts' specs pid T₃ w₃ g1 c₃=>?_
 have tg':=tg.addp (tt:=.st) (g':={s.g with statics:=s.g.statics++[(kd,r)]}) (specs:=specs) (r:=r) (pid:=pid) rfl (ltL bd.cnt rfl) (ltL bd.he rfl) rfl rfl rfl
 k_ownIn
 exact q r T₃ (w₃.segx (tg'.ct g1.count) hp (erase_last fun q=>(w.free hn₁).1 (List.mem_append_right _ q)))
noncomputable def unhS:S:=(fd_law.body.drop 14).headD .pass
set_option maxHeartbeats 4000000 in
theorem Seg.unh {n k z w m scr:Nat} {mi:MId} {st:List (Int×Nat)} {T:TH} {a b x y:Option V} {r:List S} {Q:Option V×Rho→TH→Prop} (h:Seg k T w m scr mi [mi.un] st) (hk:k+2≤180)
  (q:∀ ex T',ex.length≤1→Seg (k+2) T' w m scr mi ex st→SV (CN (n+6)) [a,b,some (.obj m),some (.obj w),some (.int z),x,y] r T' Q) :
  SV (CN (n+6)) [a,b,some (.obj m),some (.obj w),some (.int z),x,y] (unhS::r) T Q:=by
 have h0:=q [mi.un] T (Nat.le_refl 1) (h.up 2 hk)
 generalize hex:[mi.un]=ex at h
 revert q h0 hex
 refine h.on fun s w tg hp q h0 hex=>?_
 unfold unhS fd_law
 dsimp only [List.drop,List.headD]
 have bd:=w.bd
 have hw:=w.W.bk.w
 obtain⟨hd,A,_⟩:=w.H.P
 have mm:=A.g 0
 k_ownIn
 refine⟨fun _=>?_,fun _=>h0⟩
 k_ownIn
 refine AnyK.mk .cspec ?_
 k_ownIn
 refine sp_newest w tg.che tg.chm fun f' hf' ts' sp T₁ W₁ g1 g2 ok c₁=>?_
 have w₁:Mem (k+1) (s.nu f' hf' ts') T₁:=w.fresh (Nat.le_of_succ_le hk) W₁ g1 (Nat.le_of_ble_eq_true rfl) g2 c₁
 k_ownIn
 rename_i pid T₂ hn₂ h₂ c₂
 refine wld_put (tt:=.un) (specs:=[sp]) (r:=s.mi.un) (w₁.chg0 c₂) hk (hex▸List.mem_singleton.mpr rfl) h₂ (one_mem ok) (Nat.le_of_ble_eq_true rfl) (w₁.free hn₂).2.2 fun T₃ w₃ c₃=>?_
 have tg':=tg.addp (tt:=.un) (g':=s.g) (specs:=[sp]) (r:=s.mi.un) (pid:=pid) rfl (ltL bd.cnt rfl) (ltL bd.he rfl) rfl rfl rfl
 exact q [] T₃ (Nat.zero_le _) (w₃.segx (tg'.ct g1.count) hp (by show s.ex.erase s.mi.un=[];rw [←hex];exact List.erase_cons_head ..))
set_option genInjectivity false
structure ShI (km:K) (c m:Nat) (T0:TH) (fs:List V) (L:List (Nat×K×O)) (T:TH):Prop where
 me:T[m]?=some (km,.inst c fs.reverse)
 all:∀ x∈L,T[x.1]?=some x.2∧T0[x.1]?=none∧x.2.1≠km
 chg:Chg (oneX m) T0 T
 nd:(L.map (·.1)).Nodup
inductive NewE:E→O→Prop where
 | list:NewE (.list []) (.list [])
 | none1:NewE (.list [.lit .none]) (.list [.none])
 | di:NewE (.dict .di) (.di [])
 | ds:NewE (.dict .ds) (.ds [])
 | dt:NewE (.dict .dt) (.dt [])
 | new0 (c:Nat):NewE (.new0 c) (.inst c [])
theorem putAt_end:∀ {l:List V} {v:V},putAt l l.length v=l++[v]
 | [],_=>rfl
 | a::r,v=>by
  show a::putAt r r.length v=_
  rw [putAt_end];rfl
section
variable {C:CallP} {ρ:Rho} {T T0:TH} {Q:Option V×Rho→TH→Prop} {r:List S} {e:E} {km:K} {c m:Nat} {fs:List V} {L:List (Nat×K×O)}
theorem NewE.ev {k:K} {o:O} {Q:V→TH→Prop} (h:NewE e o) (q:NewY T k o fun i T=>Q (.obj i) T):EV C ρ e T Q:=by
 cases h with
 | _=>exact AnyK.mk k q
theorem ShI.put {T₁:TH} (I:ShI km c m T0 fs L T₁) {i:Nat} {v:V} (hi:fs.length=i) {Q:TH→Prop} (q:∀ T',ShI km c m T0 (v::fs) L T'→Q T'):AttrPut T₁ m c i v Q:=by
 have hi:i=fs.reverse.length:=by rw [List.length_reverse,hi]
 subst hi
 refine AttrPut.mk I.me (Nat.ble_self_eq_true _) ?_
 show PutY T₁ m km (.inst c (putAt fs.reverse fs.reverse.length v)) Q
 rw [putAt_end,←List.reverse_cons]
 refine PutY.intro ?_
 intro T₂ h₂ c₂
 exact q T₂ ⟨h₂,fun x hx=>⟨c₂.otherK (I.all x hx).1 h₂ (I.all x hx).2.2,(I.all x hx).2⟩,c₂.back I.chg side_same,I.nd⟩
theorem ShI.new {j:Nat} {k:K} {o:O} {T₁:TH} (I:ShI km c m T0 fs L T) (hk:k≠km) (hn:T[j]?=none) (h:T₁[j]?=some (k,o)) (cc:Chg noX T T₁):ShI km c m T0 fs ((j,k,o)::L) T₁:=by
 refine⟨cc.keep I.me,fun x hx=>?_,cc.back I.chg side_no,List.nodup_cons.mpr ⟨fun ha=>?_,I.nd⟩⟩
 ·rcases List.mem_cons.mp hx with rfl|hx
  ·exact⟨h,none_back hn (I.chg.weaken fun _ _ _=>trivial),hk⟩
  ·exact⟨cc.keep (I.all x hx).1,(I.all x hx).2⟩
 ·obtain⟨x,hx,q⟩:=List.mem_map.mp ha
  exact ne_none (I.all x hx).1 hn q
theorem sh_new {i:Nat} (k:K) {o:O} (I:ShI km c m T0 fs L T) (he:NewE e o) (hρ:(ρ[0]?).join=some (.obj m)) (hi:fs.length=i) (hk:k≠km) (q:∀ j T',ShI km c m T0 (.obj j::fs) ((j,k,o)::L) T'→SV C ρ r T' Q):SV C ρ (.assign (.attr (.loc 0) c i) e::r) T Q:=by
 refine he.ev (k:=k) (.intro fun j T₁ hn h cc=>?_)
 show GetM (ρ[0]?).join _
 rw [hρ]
 exact (I.new hk hn h cc).put hi fun T' I'=>q j T' I'
theorem sh_val {i:Nat} {v:V} (I:ShI km c m T0 fs L T) (he:∀ {Q:V→TH→Prop},Q v T→EV C ρ e T Q) (hρ:(ρ[0]?).join=some (.obj m)) (hi:fs.length=i) (q:∀ T',ShI km c m T0 (v::fs) L T'→SV C ρ r T' Q):SV C ρ (.assign (.attr (.loc 0) c i) e::r) T Q :=
 he (by
  show GetM (ρ[0]?).join _
  rw [hρ]
  exact I.put hi q)
theorem ShI.g {i:Nat} {k:K} {o:O} (I:ShI km c m T0 fs L T) (j:Nat) (h:L[j]?=some (i,k,o):=by rfl):T[i]?=some (k,o):=(I.all _ (List.mem_of_getElem? h)).1
theorem ShI.n {i:Nat} {k:K} {o:O} (I:ShI km c m T0 fs L T) (j:Nat) (h:L[j]?=some (i,k,o):=by rfl):T0[i]?=none:=(I.all _ (List.mem_of_getElem? h)).2.1
inductive NewC where
 | list|none1|di|ds|dt
 | new0 (c:Nat)
noncomputable def NewC.ex:NewC→E
 | .list=>.list []
 | .none1=>.list [.lit .none]
 | .di=>.dict .di
 | .ds=>.dict .ds
 | .dt=>.dict .dt
 | .new0 c=>.new0 c
noncomputable def NewC.ob:NewC→O
 | .list=>.list []
 | .none1=>.list [.none]
 | .di=>.di []
 | .ds=>.ds []
 | .dt=>.dt []
 | .new0 c=>.inst c []
theorem NewC.ok:∀ a:NewC,NewE a.ex a.ob
 | .list=>.list
 | .none1=>.none1
 | .di=>.di
 | .ds=>.ds
 | .dt=>.dt
 | .new0 c=>.new0 c
inductive Fld where
 | new (k:K) (a:NewC)
 | val (v:V)
 | loc (j:Nat)
noncomputable def asg (c:Nat):Nat→List Fld→List S→List S
 | _,[],r=>r
 | i,.new _ a::l,r=>.assign (.attr (.loc 0) c i) a.ex::asg c (i+1) l r
 | i,.val v::l,r=>.assign (.attr (.loc 0) c i) (.lit v)::asg c (i+1) l r
 | i,.loc j::l,r=>.assign (.attr (.loc 0) c i) (.loc j)::asg c (i+1) l r
noncomputable def fldV (ρ:Rho):List Nat→List Fld→List V→List V
 | _,[],fs=>fs
 | js,.new _ _::l,fs=>fldV ρ js.tail l (.obj (js.headD 0)::fs)
 | js,.val v::l,fs=>fldV ρ js l (v::fs)
 | js,.loc j::l,fs=>fldV ρ js l ((ρ[j]?).join.getD .none::fs)
noncomputable def fldN:List Nat→List Fld→List (Nat×K×O)→List (Nat×K×O)
 | _,[],L=>L
 | js,.new k a::l,L=>fldN js.tail l ((js.headD 0,k,a.ob)::L)
 | js,.val _::l,L=>fldN js l L
 | js,.loc _::l,L=>fldN js l L
noncomputable def fldsOk (km:K) (ρ:Rho):List Fld→Bool
 | []=>true
 | .new k _::l=>Nat.beq k.n km.n==false&&fldsOk km ρ l
 | .val _::l=>fldsOk km ρ l
 | .loc j::l=>(ρ[j]?).join.isSome&&fldsOk km ρ l
theorem sh_all (i:Nat) (l:List Fld) (I:ShI km c m T0 fs L T) (ok:fldsOk km ρ l=true) (hρ:(ρ[0]?).join=some (.obj m)) (hi:fs.length=i) (q:∀ js T',ShI km c m T0 (fldV ρ js l fs) (fldN js l L) T'→SV C ρ r T' Q):SV C ρ (asg c i l r) T Q:=by
 induction l generalizing i fs L T with
 | nil=>exact q [] T I
 | cons f l ih =>
  cases f with
  | new k a =>
   have ok:=Bool.and_eq_true_iff.mp ok
   exact sh_new k I a.ok hρ hi (fun e=>Bool.false_ne_true ((eq_of_beq ok.1).symm.trans (e▸Nat.beq_refl _))) fun j T' I'=>ih (i+1) I' ok.2 (congrArg (·+1) hi) fun js=>q (j::js)
  | val v=>exact sh_val I id hρ hi fun T' I'=>ih (i+1) I' ok (congrArg (·+1) hi) q
  | loc j =>
   have ok:=Bool.and_eq_true_iff.mp ok
   obtain⟨v,hv⟩:=Option.isSome_iff_exists.mp ok.1
   refine sh_val (v:=(ρ[j]?).join.getD .none) I (fun q=>?_) hρ hi fun T' I'=>ih (i+1) I' ok.2 (congrArg (·+1) hi) q
   show GetM (ρ[j]?).join _
   rw [hv] at q ⊢;exact q
end
theorem nd_pick {a b c d e f:Nat} (h:[a,b,c,d,e,f].Nodup):[f,e,a,b].Nodup:=by
 have h:[f,e,d,c,b,a].Nodup:=(List.reverse_perm [a,b,c,d,e,f]).nodup_iff.mpr h
 have h:[f,e,b,a].Nodup:=List.Nodup.sublist (.cons_cons _ (.cons_cons _ (.cons _ (.cons _ (.refl _))))) h
 exact (List.Perm.cons f (.cons e (.swap a b []))).nodup_iff.mp h
set_option maxHeartbeats 2000000 in
theorem sp_Frame {n fo num args:Nat} {mref body sort:V} {T:TH} {Q:V→TH→Prop} (h0:T[fo]?=some (.fr,.inst 6 [])) (k:∀ lo st kp cv xs T',(∀ r∈[lo,st,kp,cv],T[r]?=none∧T'[r]?=some (.real,.list []))→[lo,st,kp,cv].Nodup→T'[fo]?=some (.fr,Fr.obj ⟨fo,num,num,args,lo,st,kp,cv,xs⟩)→Chg (oneX fo) T T'→Q .none T'):CallY (CN (n+1)) 57 [.obj fo,.int (num:Int),mref,body,.obj args,sort] T Q:=by
 refine call_fn (fd:=fd_Frame_init) (by rfl) (by rfl) ?_
 refine (?_:SV _ [some (.obj fo),some (.int (num:Int)),some mref,some body,some (.obj args),some sort] _ _ _)
 have I:ShI .fr 6 fo T [] [] T:=⟨h0,fun _ h=>(nomatch h),.refl _ _,.nil⟩
 refine sh_all 0 [.loc 1,.loc 2,.loc 3,.val (.int 0),.loc 4,.new .real .list,.new .real .list,.new .g .list,.new .g .list,.new .real .list,.new .real .list,.loc 5,.loc 1,.val (.int 0)] I rfl rfl rfl fun js T₁ I=>?_
 refine sh_val (v:=.int (-1)) I (fun q=>by k_ownIn;exact q) rfl rfl fun T₂ I=>?_
 exact k _ _ _ _ (mref,body,.int 0,_,_,sort,.int 0,.int (-1)) T₂ (fun r hr=>by
  rcases List.mem_cons.mp hr with rfl|hr
  ·exact⟨I.n 5,I.g 5⟩
  rcases List.mem_cons.mp hr with rfl|hr
  ·exact⟨I.n 4,I.g 4⟩
  rcases List.mem_cons.mp hr with rfl|hr
  ·exact⟨I.n 0,I.g 0⟩
  rw [List.mem_singleton.mp hr]
  exact⟨I.n 1,I.g 1⟩) (nd_pick I.nd) I.me I.chg
set_option genInjectivity false
inductive Bf (k c:Nat) (done todo ex0 pend:List Nat) (F:Fr) (T:TH):Nat→Nat→Nat→MId→List (Int×Nat)→Prop
 | mk (s:Gs):Mem k s T→TgW c s.mi.iv s.g s.cells s.cm s.tx→s.f.count=c→T[F.id]?=some (.fr,F.obj)→s.ex=ex0++todo→s.pend=pend→rowsOf s.cells (.fr c)=done→(∀ x∈s.g.frames,x.number≠c)→Bf k c done todo ex0 pend F T s.i.w s.i.m s.i.scr s.mi s.g.statics
@[elab_as_elim] theorem Bf.on {k c:Nat} {done todo ex0 pend:List Nat} {F:Fr} {T:TH} {w m scr:Nat} {mi:MId} {st:List (Int×Nat)} {P:Nat→Nat→Nat→MId→List (Int×Nat)→Prop} (h:Bf k c done todo ex0 pend F T w m scr mi st) (K:∀ s:Gs,Mem k s T→TgW c s.mi.iv s.g s.cells s.cm s.tx→s.f.count=c→T[F.id]?=some (.fr,F.obj)→s.ex=ex0++todo→s.pend=pend→rowsOf s.cells (.fr c)=done→(∀ x∈s.g.frames,x.number≠c)→P s.i.w s.i.m s.i.scr s.mi s.g.statics):P w m scr mi st:=by
 cases h with|mk s a1 a2 a3 a4 a5 a6 a7 a8=>exact K s a1 a2 a3 a4 a5 a6 a7 a8
theorem erase_mid {l m:List Nat} {r:Nat} (h:r∉l):(l++r::m).erase r=l++m:=by
 rw [List.erase_append_right _ h,List.erase_cons_head]
section
variable {n k c i y:Nat} {dn todo ex0 pend:List Nat} {F:Fr} {T:TH} {w m scr r:Nat} {mi:MId} {st:List (Int×Nat)} {v1 v2 v4 v5 v6 v7:Option V} {e fe:E} {fs:List Nat} {rest:List S} {Q:PS'}
theorem Bf.fill (h:Bf k c dn (r::todo) ex0 pend F T w m scr mi st) (hk:k+1≤180) (hi:∃ l,F.obj=.inst 6 l∧l[i]?=some (.obj r)) (he:∀ {T:TH} {Q:PE'},(∀ y:Nat,Q (.int y) T)→EV (CN (n+6)) [some (.obj w),v1,v2,some (.str (Tg.fr c).s),v4,v5,v6,v7,some (.obj F.id)] e T Q)
  (hf:∀ {T:TH} {Q:PE'},Q (.tup (fs.map fun x:Nat=>.int (x:Int))) T→EV (CN (n+6)) [some (.obj w),v1,v2,some (.str (Tg.fr c).s),v4,v5,v6,v7,some (.obj F.id)] fe T Q) (hfs:(∀ x∈fs,x≤6)∧0<fs.length∧fs.length≤10)
  (q:∀ T',Bf (k+1) c (dn++[r]) todo ex0 pend F T' w m scr mi st→SV (CN (n+6)) [some (.obj w),v1,v2,some (.str (Tg.fr c).s),v4,v5,v6,v7,some (.obj F.id)] rest T' Q) :
  SV (CN (n+6)) [some (.obj w),v1,v2,some (.str (Tg.fr c).s),v4,v5,v6,v7,some (.obj F.id)] (.expr (.call 74 [.loc 0,.loc 3,.attr (.loc 8) 6 i,e,fe])::rest) T Q:=by
 revert he hf q
 refine h.on fun s w tg ct hF hx hp hr hn he hf q=>?_
 obtain⟨l,hl,hi⟩:=hi
 have hrx:r∈s.ex:=by rw [hx];exact List.mem_append_right _ (.head _)
 have nd:=(List.nodup_append.mp w.nd).2.1
 rw [hx] at nd
 have hno:r∉ex0:=fun q=>(List.nodup_append.mp nd).2.2 _ q _ (.head _) rfl
 have b:=w.bd
 have hc:c<64:=ltL (ct▸b.cnt) rfl
 have hF':=hF
 rw [hl] at hF'
 refine InstY.mk hF' ?_
 show GetM l[i]? _
 rw [hi]
 refine he fun y=>hf ?_
 refine wld_fill (tt:=.fr c) w hk hrx hfs.1 hfs.2 fun f' hf' ts' specs pid T' w' g1 cc=>q T' ?_
 have t:=tg.addf (specs:=specs) (r:=r) (pid:=pid) hc (ltL b.he rfl) hr hn
 refine .mk (s.ad f' hf' ts' ⟨(Tg.fr c).s,specs,r,pid⟩) w' t.1 (g1.count.trans ct) ((OffP.fill (p:=[6]) (w.exs r hrx) w.C.ce cc).g hF rfl) ?_ hp t.2 hn
 show s.ex.erase r=_
 rw [hx];exact erase_mid hno
theorem Bf.push {rs:List Nat} (h:Bf k c rs [] ex0 pend F T w m scr mi st) (hk:k+1≤180) (hnum:F.number=c) (hhome:F.home≤F.number) (hrows:rs.Perm F.rows) (hp:pend.Perm F.rows)
  (q:∀ T',Seg (k+1) T' w m scr mi ex0 st→Q (none,[some (.obj w),v1,some (.obj m),some (.str (Tg.fr c).s),v4,v5,v6,v7,some (.obj F.id)]) T') :
  SV (CN (n+6)) [some (.obj w),v1,some (.obj m),some (.str (Tg.fr c).s),v4,v5,v6,v7,some (.obj F.id)] [.expr (.append (.attr (.loc 2) 10 9) (.loc 8))] T Q:=by
 subst hnum
 revert q
 refine h.on fun s w tg ct hF hx hpe hr hn q=>?_
 obtain⟨hd,A,_⟩:=w.H.P
 have mm:=A.g 0
 have frs:=A.g 1
 have b:=w.bd
 k_ownIn
 refine⟨lmL b.fr,PutY.intro fun T₁ h₁ c₁=>?_⟩
 have w₁:=w.frame (f:=F) (pend':=[]) hk c₁ hF (by rw [List.map_append];exact h₁) (by rw [List.append_nil,hpe];exact roots_frame.trans (.append_left _ hp.symm))
 have tg':=tg.push (f:=F) ⟨Nat.le_refl _,hhome⟩ (hr▸hrows) hn
 k_ownIn
 exact q T₁ (w₁.segx (tg'.ct ct) rfl (hx.trans (List.append_nil _)))
end
set_option genInjectivity false
noncomputable def standP:List S×List S×List S:=match fd_law_stand.body.drop 6 with
 | .ite _ a b::r=>(a,b,r)
 | _=>([],[],[])
theorem rows_own {F:Fr} (h:F.home=F.number):F.rows=[F.args,F.locals_,F.stack,F.keep,F.caughtv]:=by unfold Fr.rows;rw [if_pos h];rfl
theorem rows_low {F:Fr} (h:F.home≠F.number):F.rows=[F.stack,F.keep,F.caughtv]:=by unfold Fr.rows;rw [if_neg h];rfl
theorem perm_own {F:Fr} (h:F.home=F.number):[F.args,F.locals_,F.stack,F.keep,F.caughtv].Perm F.rows:=rows_own h▸.refl _
theorem perm_low {F:Fr} (h:F.home≠F.number):[F.stack,F.keep,F.caughtv].Perm F.rows:=rows_low h▸.refl _
theorem IdxY.any4 {T:TH} {z:Nat} {a b c d:V} {Q:V→Prop} (h:∀ v,Q v):IdxY T Q (.tup [a,b,c,d]) (.int (z%4:Nat)):=by
 have hz:z%4<4:=Nat.mod_lt _ (Nat.zero_lt_succ 3)
 exact .tup (v:=([a,b,c,d][z%4]?).getD a) (at_nat (by
  obtain⟨v,hv⟩:∃ v,[a,b,c,d][z%4]?=some v:=⟨_,List.getElem?_eq_getElem hz⟩
  rw [hv];rfl) (Nat.lt_trans hz (Nat.le_of_ble_eq_true rfl))) (h _)
structure TailOk (K c:Nat) (ex:List Nat) (F:Fr) (T:TH) (w m scr:Nat) (mi:MId) (st:List (Int×Nat)):Prop where
 h:∃ dn pend,Bf K c dn [F.keep,F.caughtv] ex pend F T w m scr mi st∧(dn++[F.keep]++[F.caughtv]).Perm F.rows∧pend.Perm F.rows
 num:F.number=c
 home:F.home≤F.number
theorem Bf.up {k c:Nat} {dn todo ex0 pend:List Nat} {F:Fr} {T:TH} {w m scr:Nat} {mi:MId} {st:List (Int×Nat)} (h:Bf k c dn todo ex0 pend F T w m scr mi st) (d:Nat) (hk:k+d≤180):Bf (k+d) c dn todo ex0 pend F T w m scr mi st :=
 h.on fun s w a b c d' e f g=>.mk s (w.up d hk) a b c d' e f g
section
variable {n k y z:Nat} {s:Gs} {T:TH} {v4:V} {v5 v7:Option V} {Q:PS'}
set_option maxHeartbeats 4000000 in
theorem stand_own (w:Mem k s T) (tg:TgW s.f.count s.mi.iv s.g s.cells s.cm s.tx) (hr0:rowsOf s.cells (.fr s.f.count)=[]) (hn:∀ x∈s.g.frames,x.number≠s.f.count) (hp:s.pend=[]) (hk:k+3≤180)
  (q:∀ F T',TailOk (k+3) s.f.count s.ex F T' s.i.w s.i.m s.i.scr s.mi s.g.statics→Q (none,[some (.obj s.i.w),some (.int (z:Nat)),some (.obj s.i.m),some (.str (Tg.fr s.f.count).s),some v4,v5,some (.int (y:Nat)),none,some (.obj F.id)]) T') :
  SV (CN (n+6)) [some (.obj s.i.w),some (.int (z:Nat)),some (.obj s.i.m),some (.str (Tg.fr s.f.count).s),some v4,v5,some (.int (y:Nat)),none,none] standP.2.1 T Q:=by
 have hw:=w.W.bk.w
 unfold standP fd_law_stand
 dsimp only [List.drop]
 refine AnyK.mk .fr ?_
 k_ownIn
 refine AnyK.mk .real ?_
 k_ownIn
 refine IdxY.any4 fun sort=>?_
 k_ownIn
 rename_i ar T₂ hn₂ h₂ c₂ fo T₃ hn₃ h₃ c₃
 refine sp_Frame (num:=s.f.count) h₃ fun lo st kp cv xs T₄ hall nd hfo c₄=>⟨rfl,?_⟩
 have c₁₄:Chg noX T T₄:=c₄.fresh (c₂.tr c₃) (none_back hn₃ (c₂.weaken fun _ _ _=>trivial))
 have ar₃:=c₃.keep h₂
 have ar₄:=c₄.otherK ar₃ hfo (by decide)
 have hnd:[ar,lo,st,kp,cv].Nodup:=List.nodup_cons.mpr ⟨fun h=>some_ne (ar₃.symm.trans (hall _ h).1),nd⟩
 have ns:∀ r∈[ar,lo,st,kp,cv],T[r]?=none:=fun r hr=>(List.mem_cons.mp hr).elim (fun e=>e▸hn₂) fun h=>none_back (none_back (hall r h).1 (c₃.weaken fun _ _ _=>trivial)) (c₂.weaken fun _ _ _=>trivial)
 have rs:∀ r∈[ar,lo,st,kp,cv],T₄[r]?=some (.real,.list []):=fun r hr=>(List.mem_cons.mp hr).elim (fun e=>e▸ar₄) fun h=>(hall r h).2
 have w₄:Mem k (s.mo s.g [ar,lo,st,kp,cv] [ar,lo,st,kp,cv]) T₄:=w.more 0 w.kl (.no c₁₄) (w.H.off (.no c₁₄)) ns rs hnd (by rw [hp,List.append_nil]) w.fks (w.N.up 0 nl nl nl nl nl nl nl nl)
 have B:Bf k s.f.count [] [ar,lo,st,kp,cv] s.ex [ar,lo,st,kp,cv] ⟨fo,s.f.count,s.f.count,ar,lo,st,kp,cv,xs⟩ T₄ s.i.w s.i.m s.i.scr s.mi s.g.statics:=.mk (s.mo s.g _ _) w₄ tg rfl hfo rfl rfl hr0 hn
 clear w₄ rs ns hnd ar₄ ar₃ c₁₄ c₄ hall nd hfo c₂ c₃ h₂ h₃ hn₂ hn₃
 refine B.fill (fs:=[0,1,2,3,4,5,6]) (Nat.le_of_succ_le (Nat.le_of_succ_le hk)) ⟨_,rfl,rfl⟩ (fun q=>q y) (fun q=>q) ⟨by decide,by decide⟩ fun T₅ B=>?_
 refine B.fill (fs:=[0,1,2,3,4,5,6]) (Nat.le_of_succ_le hk) ⟨_,rfl,rfl⟩ (fun q=>by k_ownIn;exact q _) (fun q=>q) ⟨by decide,by decide⟩ fun T₆ B=>?_
 refine B.fill (fs:=[0,1,2,3,4,5,6]) hk ⟨_,rfl,rfl⟩ (fun q=>by k_ownIn;exact q _) (fun q=>q) ⟨by decide,by decide⟩ fun T₇ B=>?_
 exact q ⟨fo,s.f.count,s.f.count,ar,lo,st,kp,cv,xs⟩ T₇ ⟨⟨_,_,B,perm_own (F:=⟨fo,s.f.count,s.f.count,ar,lo,st,kp,cv,xs⟩) rfl,perm_own (F:=⟨fo,s.f.count,s.f.count,ar,lo,st,kp,cv,xs⟩) rfl⟩,rfl,Nat.le_refl _⟩
set_option maxHeartbeats 4000000 in
theorem stand_low {y:Nat} {v5:Int} (w:Mem k s T) (tg:TgW s.f.count s.mi.iv s.g s.cells s.cm s.tx) (hr0:rowsOf s.cells (.fr s.f.count)=[]) (hn:∀ x∈s.g.frames,x.number≠s.f.count) (hp:s.pend=[]) (hk:k+3≤180) (hb:0<s.g.frames.length)
  (q:∀ F v7 T',TailOk (k+3) s.f.count s.ex F T' s.i.w s.i.m s.i.scr s.mi s.g.statics→Q (none,[some (.obj s.i.w),some (.int (z:Nat)),some (.obj s.i.m),some (.str (Tg.fr s.f.count).s),some v4,some (.int (s.g.frames.length:Nat)),some (.int (y:Nat)),v7,some (.obj F.id)]) T') :
  SV (CN (n+6)) [some (.obj s.i.w),some (.int (z:Nat)),some (.obj s.i.m),some (.str (Tg.fr s.f.count).s),some v4,some (.int (s.g.frames.length:Nat)),some (.int (y:Nat)),none,none] standP.1 T Q:=by
 have b:=w.bd
 have hw:=w.W.bk.w
 obtain⟨hd,A,_⟩:=w.H.P
 have mm:=A.g 0
 have frs:=A.g 1
 have hlt:z/3%s.g.frames.length<s.g.frames.length:=Nat.mod_lt _ hb
 obtain⟨L,hL⟩:∃ L,s.g.frames[z/3%s.g.frames.length]?=some L:=⟨_,List.getElem?_eq_getElem hlt⟩
 have hLm:=List.mem_of_getElem? hL
 have hLo:=w.H.fr L hLm
 have tl:=(tg.frr L hLm).1
 have hlo:L.home≠s.f.count:=fun e=>hn L hLm (Nat.le_antisymm tl.1 (e▸tl.2))
 unfold standP fd_law_stand
 dsimp only [List.drop]
 k_ownIn
 refine BinY.modN hb ?_
 refine IdxY.list frs (at_nat (v:=.obj L.id) (by rw [List.getElem?_map,hL];rfl) (Nat.lt_of_lt_of_le hlt (leL b.fr rfl))) ?_
 k_ownIn
 refine AnyK.mk .fr ?_
 k_ownIn
 rename_i fo T₃ hn₃ h₃ c₃
 refine sp_Frame (num:=s.f.count) h₃ fun lo st kp cv xs T₄ hall nd hfo c₄=>⟨rfl,?_⟩
 have c₁₄:Chg noX T T₄:=c₄.fresh c₃ hn₃
 have hLo₄:=c₁₄.keep hLo
 have hw₄:=c₁₄.keep hw
 clear c₄
 k_ownIn
 rename_i T₅ h₅ c₅
 have hLo₅:=c₅.other hLo₄ (ne_none' hn₃ hLo)
 k_ownIn
 rename_i T₆ h₆ c₆
 have c₁₆:Chg noX T T₆:=c₆.fresh c₁₄ hn₃
 have ns:∀ r∈[st,kp,cv],T[r]?=none:=fun r h=>none_back (hall r (.tail _ h)).1 (c₃.weaken fun _ _ _=>trivial)
 have rs:∀ r∈[st,kp,cv],T₆[r]?=some (.real,.list []):=fun r h=>c₆.otherK (hall r (.tail _ h)).2 h₆ (by decide)
 have w₆:Mem k (s.mo s.g [st,kp,cv] [st,kp,cv]) T₆:=w.more 0 w.kl (.no c₁₆) (w.H.off (.no c₁₆)) ns rs (List.nodup_cons.mp nd).2 (by rw [hp,List.append_nil]) w.fks (w.N.up 0 nl nl nl nl nl nl nl nl)
 have B:Bf k s.f.count [] [st,kp,cv] s.ex [st,kp,cv] ⟨fo,s.f.count,L.home,L.args,L.locals_,st,kp,cv,xs⟩ T₆ s.i.w s.i.m s.i.scr s.mi s.g.statics:=.mk (s.mo s.g _ _) w₆ tg rfl h₆ rfl rfl hr0 hn
 have done:∀ T',Bf (k+3) s.f.count ([]++[st]) [kp,cv] s.ex [st,kp,cv] ⟨fo,s.f.count,L.home,L.args,L.locals_,st,kp,cv,xs⟩ T' s.i.w s.i.m s.i.scr s.mi s.g.statics→Q (none,[some (.obj s.i.w),some (.int (z:Nat)),some (.obj s.i.m),some (.str (Tg.fr s.f.count).s),some v4,some (.int (s.g.frames.length:Nat)),some (.int (y:Nat)),some (.obj L.id),some (.obj fo)]) T':=fun T' B =>
  q ⟨fo,s.f.count,L.home,L.args,L.locals_,st,kp,cv,xs⟩ _ T' ⟨⟨_,_,B,perm_low (F:=⟨fo,s.f.count,L.home,L.args,L.locals_,st,kp,cv,xs⟩) hlo,perm_low (F:=⟨fo,s.f.count,L.home,L.args,L.locals_,st,kp,cv,xs⟩) hlo⟩,rfl,Nat.le_trans tl.2 tl.1⟩
 have hw₆:=c₁₆.keep hw
 clear c₃ c₅ hLo₅ hLo₄ h₅ hLo hLm hL c₁₄ c₁₆ hfo hall ns rs
 by_cases hy:y%2=0
 ·k_ownIn
  refine AnyK.mk .cspec ?_
  k_ownIn
  refine sp_newest w₆ tg.che tg.chm fun f₇ hf₇ ts₇ sp T₇ W₇ g₇ gr₇ ok₇ c₇=>?_
  have w₇:Mem (k+1) ((s.mo s.g [st,kp,cv] [st,kp,cv]).nu f₇ hf₇ ts₇) T₇:=w₆.fresh (Nat.le_of_succ_le (Nat.le_of_succ_le hk)) W₇ g₇ (Nat.le_of_ble_eq_true rfl) gr₇ c₇
  have hF₇:=c₇.get h₆ (nk (by decide))
  k_ownIn
  rename_i pid T₈ hn₈ h₈ c₈
  have hx:st∈s.ex++[st,kp,cv]:=List.mem_append_right _ (.head _)
  have nd₆:=(List.nodup_append.mp (List.nodup_append.mp w₆.nd).2.1).2.2
  refine wld_put (tt:=.fr s.f.count) (specs:=[sp]) (w₇.chg0 c₈) (Nat.le_of_succ_le hk) hx h₈ (one_mem ok₇) (Nat.le_of_ble_eq_true rfl) (w₇.free hn₈).2.2 fun T₉ w₉ c₉=>?_
  have t:=tg.addf (specs:=[sp]) (r:=st) (pid:=pid) (ltL b.cnt rfl) (ltL b.he rfl) hr0 hn
  k_ownIn
  exact done T₉ (Bf.mk (((s.mo s.g [st,kp,cv] [st,kp,cv]).nu f₇ hf₇ ts₇).ad f₇ hf₇ ts₇ ⟨(Tg.fr s.f.count).s,[sp],st,pid⟩) (w₉.up 1 hk) t.1 g₇.count ((OffP.fill (p:=[6]) ((w₇.chg0 c₈).exs st hx) (w₇.chg0 c₈).C.ce (c₉.weaken fun _ _ q=>.inr q)).g (c₈.keep hF₇) rfl) (erase_mid fun q=>nd₆ _ q _ (.head _) rfl) rfl t.2 hn)
 ·refine ite_f (beq_false_of_ne fun e=>hy (Int.ofNat_inj.mp e)) ?_
  refine B.fill (fs:=[0,1,2,3,4,5,6]) (Nat.le_of_succ_le (Nat.le_of_succ_le hk)) ⟨_,rfl,rfl⟩ (fun q=>q y) (fun q=>q) ⟨by decide,by decide⟩ fun T₇ B=>?_
  exact done T₇ (B.up 2 hk)
end
set_option genInjectivity false
section
variable {n k c y z:Nat} {ex:List Nat} {F:Fr} {T:TH} {w m scr:Nat} {mi:MId} {st:List (Int×Nat)} {v1 v4 v5 v7:Option V} {Q:PS'}
theorem stand_tail (h:TailOk k c ex F T w m scr mi st) (hk:k+3≤180) (q:∀ T',Seg (k+3) T' w m scr mi ex st→Q (none,[some (.obj w),v1,some (.obj m),some (.str (Tg.fr c).s),v4,v5,some (.int (y:Nat)),v7,some (.obj F.id)]) T') :
  SV (CN (n+6)) [some (.obj w),v1,some (.obj m),some (.str (Tg.fr c).s),v4,v5,some (.int (y:Nat)),v7,some (.obj F.id)] standP.2.2 T Q:=by
 obtain⟨⟨dn,pend,B,p1,p2⟩,hnum,hhome⟩:=h
 refine B.fill (fs:=[0,1,2,3,4,5,6]) (Nat.le_of_succ_le (Nat.le_of_succ_le hk)) ⟨_,rfl,rfl⟩ (fun q=>by k_ownIn;exact q _) (fun q=>q) ⟨by decide,by decide⟩ fun T₁ B=>?_
 refine B.fill (fs:=[0]) (Nat.le_of_succ_le hk) ⟨_,rfl,rfl⟩ (fun q=>by k_ownIn;exact q _) (fun q=>q) ⟨by decide,by decide⟩ fun T₂ B=>?_
 exact B.push hk hnum hhome p1 p2 q
end
set_option maxHeartbeats 400000 in
theorem Seg.stand {n k z w m scr:Nat} {mi:MId} {ex:List Nat} {st:List (Int×Nat)} {T:TH} {Q:V→TH→Prop} (h:Seg k T w m scr mi ex st) (hk:k+9≤180) (q:∀ T',Seg (k+9) T' w m scr mi ex st→Q .none T'):CallY (CN (n+7)) 78 [.obj w,.int z] T Q:=by
 revert q
 refine h.on fun s w tg hp q=>?_
 refine call_fn (fd:=fd_law_stand) (by rfl) (by rfl) ?_
 refine (?_:SV _ [some (.obj s.i.w),some (.int z),none,none,none,none,none,none,none] _ _ _)
 have b:=w.bd
 have hw:=w.W.bk.w
 k_ownIn
 refine⟨str_ok (leL (Nat.succ_le_succ b.cnt) rfl),BinY.tag (ltL (Nat.succ_le_succ b.cnt) rfl) (by decide) ?_⟩
 rename_i T₁ h₁ c₁
 have w₁:Mem (k+3) (s.nu {s.f with count:=s.f.count+1} s.hf s.ts) T₁:=w.setw 3 (Nat.le_trans (Nat.le_add_right _ 6) hk) h₁ c₁ rfl rfl (Nat.le_add_right _ _) (Nat.le_refl _)
 have hr0:=(tg.new _ (Nat.lt_succ_self _) (ltL (Nat.succ_le_succ b.cnt) rfl)).2
 have hn:∀ x∈s.g.frames,x.number≠s.f.count+1:=fun x hx e=>Nat.lt_irrefl s.f.count (e▸(tg.frr x hx).1.1:s.f.count+1≤s.f.count)
 obtain⟨hd,A,_⟩:=w₁.H.P
 have mm:=A.g 0
 have frs:=A.g 1
 k_ownIn
 refine LenY.map frs b.fr ?_
 repeat o_fieldsN
 have tail:∀ {F:Fr} {v7:Option V} {T':TH},TailOk (k+6) (s.f.count+1) s.ex F T' s.i.w s.i.m s.i.scr s.mi s.g.statics→SV (CN (n+6)) [some (.obj s.i.w),some (.int (z:Nat)),some (.obj s.i.m),some (.str (Tg.fr (s.f.count+1)).s),some (.tup [.int 16,.int 1,.tup []]),some (.int (s.g.frames.length:Nat)),some (.int (z/12:Nat)),v7,some (.obj F.id)] standP.2.2 T' (fun r T=>Q (r.1.getD .none) T):=fun h=>stand_tail (v1:=some (.int z)) h hk q
 have own:=stand_own (n:=n) (z:=z) (y:=z/12) (v4:=.tup [.int 16,.int 1,.tup []]) (v5:=some (.int (s.g.frames.length:Nat))) (Q:=seqQ (fun ρ T Q=>SV (CN (n+6)) ρ standP.2.2 T Q) fun r T=>Q (r.1.getD .none) T) w₁ tg.up hr0 hn hp (Nat.le_trans (Nat.le_add_right _ 3) hk) fun F T' h=>tail h
 by_cases hz:z%3=2
 ·refine bo_go (beq_iff_eq.mpr (congrArg Int.ofNat hz)) ?_
  repeat o_fieldsN
  by_cases hb:0<s.g.frames.length
  ·refine ite_t (decide_eq_true (Int.ofNat_lt.mpr hb)) ?_
   have low:=stand_low (n:=n) (z:=z) (y:=z/12) (v4:=.tup [.int 16,.int 1,.tup []]) (v5:=0) (Q:=seqQ (fun ρ T Q=>SV (CN (n+6)) ρ standP.2.2 T Q) fun r T=>Q (r.1.getD .none) T) w₁ tg.up hr0 hn hp (Nat.le_trans (Nat.le_add_right _ 3) hk) hb fun F v7 T' h=>tail h
   exact low
  ·refine ite_f (decide_eq_false fun h=>hb (Int.ofNat_lt.mp h)) ?_
   exact own
 ·refine bo_end (beq_false_of_ne fun e=>hz (Int.ofNat_inj.mp e)) ?_
  refine ite_f rfl ?_
  exact own
set_option genInjectivity false
theorem BinY.modE {a n m:Nat} {Q:V→Prop} (hl:Nat.ble n 1000000=true) (hb:Nat.ble 1 n=true) (e:a%n=m) (h:Q (.int (m:Int))):BinY Q .mod (.int (a:Int)) (.int (@OfNat.ofNat Int n (@instOfNat n))):=.modO hl hb (by subst e;exact h)
theorem deed_go {n z a:Nat} {i:WId} {f:WN} {T:TH} {Q:V→TH→Prop} (hw:T[i.w]?=some (.w,i.obj f)) (hz:z%8=a) (h:SV (CN (n+7)) [some (.obj i.w),some (.int (z:Nat)),some (.obj i.m),some (.int (a:Nat)),some (.int (z/8:Nat)),none,none,none,none,none] (fd_law_deed.body.drop 3) T fun r T=>Q (r.1.getD .none) T):CallY (CN (n+8)) 86 [.obj i.w,.int (z:Nat)] T Q:=by
 refine call_fn (fd:=fd_law_deed) (by rfl) (by rfl) ?_
 refine (?_:SV _ [some (.obj i.w),some (.int z),none,none,none,none,none,none,none,none] _ _ _)
 o_fieldsN
 refine BinY.modE rfl rfl hz ?_
 o_fieldsN
 exact h
section
variable {n k z w m scr:Nat} {mi:MId} {ex:List Nat} {st:List (Int×Nat)} {T:TH} {Q:V→TH→Prop}
theorem Seg.dfly (h:Seg k T w m scr mi ex st) (hk:k+5≤180) (hz:z%8=2) (q:∀ T',Seg (k+5) T' w m scr mi ex st→Q (.bool true) T'):CallY (CN (n+8)) 86 [.obj w,.int (z:Nat)] T Q:=by
 revert q
 refine h.on fun s w tg hp q=>deed_go w.W.bk.w hz ?_
 k_ownIn
 refine (w.seg tg hp).fly hk fun T' g=>?_
 k_ownIn
 exact q T' g
theorem Seg.dstand (h:Seg k T w m scr mi ex st) (hk:k+9≤180) (hz:z%8=4) (q:∀ T',Seg (k+9) T' w m scr mi ex st→Q (.bool true) T'):CallY (CN (n+8)) 86 [.obj w,.int (z:Nat)] T Q:=by
 revert q
 refine h.on fun s w tg hp q=>deed_go w.W.bk.w hz ?_
 k_ownIn
 refine (w.seg tg hp).stand hk fun T' g=>?_
 k_ownIn
 exact q T' g
theorem Seg.dfail (h:Seg k T w m scr mi ex st) (hk:k+3≤180) (hz:z%8=7) (hz2:z/8%3=1) (q:∀ T',Seg (k+3) T' w m scr mi ex st→Q (.bool true) T'):CallY (CN (n+8)) 86 [.obj w,.int (z:Nat)] T Q:=by
 revert q
 refine h.on fun s w tg hp q=>deed_go w.W.bk.w hz ?_
 repeat first|(apply BinY.modE rfl rfl hz2)|o_fieldsN|k_caught0
 refine (w.seg tg hp).fail hk fun T' g=>?_
 k_ownIn
 exact q T' g
set_option maxHeartbeats 4000000 in
theorem Seg.dheld (h:Seg k T w m scr mi ex st) (hz:z%8=7) (hz2:z/8%3=2) (q:∀ T',Seg k T' w m scr mi ex st→Q (.bool true) T'):CallY (CN (n+8)) 86 [.obj w,.int (z:Nat)] T Q:=by
 revert q
 refine h.on fun s w tg hp q=>deed_go w.W.bk.w hz ?_
 have b:=w.bd
 have hw:=w.W.bk.w
 obtain⟨hd,A,_⟩:=w.H.P
 have mm:=A.g 0
 have hes:=A.g 5
 repeat first|(apply BinY.modE rfl rfl hz2)|o_fieldsN|k_caught0
 refine LenY.map hes b.he ?_
 repeat o_fieldsN
 by_cases h0:s.g.held.length=0
 ·refine ite_f (decide_eq_false (by rw [h0];decide)) ?_
  k_ownIn
  exact q T (w.seg tg hp)
 ·refine ite_t (decide_eq_true (Int.ofNat_lt.mpr (Nat.pos_of_ne_zero h0))) ?_
  obtain⟨ws,r,hws,hwl⟩:=pop_len h0
  obtain⟨p1,p2⟩:=pop_at (f:=V.obj) hws
  k_ownIn
  refine LenY.map hes b.he ?_
  k_ownIn
  refine⟨str_ok (leL b.he rfl),BinY.tag (ltL b.he rfl) (by decide) ?_⟩
  k_ownIn
  refine sp_drop (ts:=[]) (t:=.he s.g.held.length) hw w.C.ce b.cel fun ce' T₀ T₁ c₀ h₁ hw₁ c₁=>?_
  have q₁:OffP [2,3,5,4,6,7,8,9,10,11,12,13,14,16,17,18,19,20,21,22,23,24,25,26,28,29,30,31,32,33] T T₁:=(OffP.no c₀).tr (.one c₁ hw₁)
  have mm₁:=q₁.g mm rfl
  have hes₁:=q₁.g hes rfl
  k_ownIn
  refine⟨lmLe b.he,GetY.mk p1 ?_⟩
  rw [p2]
  refine PutY.intro fun T₂ h₂ c₂=>?_
  have q₂:OffP [1,2,3,5,11,12,13,14,24,25,26,27,29,30,31,32] T₁ T₂:=.one c₂ h₂
  have w₂:=w.drop (tt:=.he s.g.held.length) (g':={s.g with held:=ws}) (cm':=s.cm) (q₁.sub.tr q₂.sub) (q₂.g h₁ rfl) (q₂.g hw₁ rfl) ((w.H.off q₁.sub).put 5 c₂ h₂) (by
   rw [hwl,tg.her ws.length r (by rw [hws];exact List.getElem?_concat_length)]
   exact (show s.g={s.g with held:=ws++[r]} by rw [←hws])▸roots_held (g:={s.g with held:=ws})) rfl (Nat.le_refl _) (Nat.le_refl _) (hwl▸Nat.le_succ _)
  have tg':TgW s.f.count s.mi.iv {s.g with held:=ws} (dropC s.cells (.he s.g.held.length)) s.cm s.tx:=tg.drop (ltL b.he rfl) (ltL b.cnt rfl) (ltL b.he rfl) tne tg.chm (fun p hp'=>⟨hp',tne⟩) tg.chd (fun f hf=>⟨hf,tne⟩) tg.frd (fun j r' hj=>by
   have hj:ws[j]?=some r':=hj
   have hjl:=(List.getElem?_eq_some_iff.mp hj).1
   exact⟨by rw [hws,List.getElem?_append_left hjl];exact hj,fun e=>Nat.lt_irrefl j (by rw [hwl] at e;exact Nat.succ.inj (Tg.he.inj e)▸hjl)⟩) fun m h=>(Nat.lt_or_eq_of_le (hwl▸h:s.g.held.length≤m)).imp id (congrArg Tg.he)
  k_ownIn
  exact q T₂ (w₂.seg tg' hp)
end
set_option genInjectivity false
section
variable {n k z w m scr:Nat} {mi:MId} {ex:List Nat} {st:List (Int×Nat)} {T:TH} {Q:V→TH→Prop}
set_option maxHeartbeats 4000000 in
theorem Seg.dframe (h:Seg k T w m scr mi ex st) (hz:z%8=3) (q:∀ T',Seg k T' w m scr mi ex st→Q (.bool true) T'):CallY (CN (n+8)) 86 [.obj w,.int (z:Nat)] T Q:=by
 revert q
 refine h.on fun s w tg hp q=>deed_go w.W.bk.w hz ?_
 have b:=w.bd
 have hw:=w.W.bk.w
 obtain⟨hd,A,_⟩:=w.H.P
 have mm:=A.g 0
 have frs:=A.g 1
 k_ownIn
 refine LenY.map frs b.fr ?_
 repeat o_fieldsN
 by_cases h0:s.g.frames.length≤1
 ·refine ite_f (decide_eq_false fun e=>Nat.not_lt.mpr h0 (Int.ofNat_lt.mp e)) ?_
  k_ownIn
  exact q T (w.seg tg hp)
 ·refine ite_t (decide_eq_true (Int.ofNat_lt.mpr (Nat.lt_of_not_le h0))) ?_
  obtain⟨ws,f,hws,hwl⟩:=pop_len (l:=s.g.frames) fun e=>h0 (e▸Nat.zero_le 1)
  obtain⟨p1,p2⟩:=pop_at (f:=fun f:Fr=>V.obj f.id) hws
  have hfm:f∈s.g.frames:=by rw [hws];exact List.mem_append_right _ (.head _)
  have hf:=w.H.fr f hfm
  have t:=tg.frr f hfm
  have hn:f.number<64:=ltL (Nat.le_trans t.1.1 b.cnt) rfl
  k_ownIn
  refine⟨lmLe b.fr,GetY.mk p1 ?_⟩
  rw [p2]
  refine PutY.intro fun T₁ h₁ c₁=>?_
  have q₁:OffP [1,2,3,4,5,6,7,8,9,10,11,12,13,14,17,18,19,20,21,22,23,24,25,26,27,28,29,30,31,32,33] T T₁:=.one c₁ h₁
  have hw₁:=q₁.g hw rfl
  have hf₁:=q₁.g hf rfl
  k_ownIn
  refine⟨str_ok (Nat.le_of_lt (ltL (Nat.le_of_lt hn) rfl)),BinY.tag hn (by decide) ?_⟩
  k_ownIn
  refine sp_drop (ts:=[]) (t:=.fr f.number) hw₁ (q₁.g w.C.ce rfl) b.cel fun ce' T₀ T₂ c₀ h₂ hw₂ c₂=>?_
  have q₂:OffP [2,3,5,4,6,7,8,9,10,11,12,13,14,16,17,18,19,20,21,22,23,24,25,26,28,29,30,31,32,33] T₁ T₂:=(OffP.no c₀).tr (.one c₂ hw₂)
  have fd:=tg.frd
  rw [hws,List.map_append] at fd
  have fd:=List.nodup_append.mp fd
  have sub:∀ x∈ws,x∈s.g.frames:=fun x hx=>by rw [hws];exact List.mem_append_left _ hx
  have w₂:=w.drop (tt:=.fr f.number) (g':={s.g with frames:=ws}) (cm':=s.cm) (q₁.sub.tr q₂.sub) h₂ hw₂ (((w.H.put 1 c₁ h₁).off q₂.sub).fam (fr':=ws) (fun x hx=>.inl (sub x hx)) fun _ h=>.inl h)
   ((show s.g={s.g with frames:=ws++[f]} by rw [←hws])▸(roots_frame (g:={s.g with frames:=ws})).trans (.append_left _ t.2.symm)) rfl (hwl▸Nat.le_succ _) (Nat.le_refl _) (Nat.le_refl _)
  have tg':TgW s.f.count s.mi.iv {s.g with frames:=ws} (dropC s.cells (.fr f.number)) s.cm s.tx:=tg.drop hn (ltL b.cnt rfl) (ltL b.he rfl) tne tg.chm (fun p hp'=>⟨hp',tne⟩) tg.chd (fun x hx=>⟨sub x hx,fun e=>fd.2.2 _ (List.mem_map_of_mem hx) f.number (.head _) (Tg.fr.inj e).symm⟩) fd.1 (fun j r' hj=>⟨hj,tne⟩) (fun m h=>.inl h)
  k_ownIn
  exact q T₂ (w₂.seg tg' hp)
theorem mul_ok {a b:Int} (ha:0≤a∧a≤1000) (hb:0≤b∧b≤1000):intOp .mul a b=some (a*b):=if_pos (Nat.lt_of_le_of_lt (show a.natAbs≤1000 by omega) (Nat.le_of_ble_eq_true rfl))
theorem out_at {α β:Type} {l:List α} {j:Nat} {a:α} {f:α→β} (h:l[j]?=some a):(l.map f)[(j:Int).toNat]?=some (f a)∧(l.map f).eraseIdx (j:Int).toNat=(l.take j++l.drop (j+1)).map f∧l=l.take j++a::l.drop (j+1):=by
 obtain⟨hl,rfl⟩:=List.getElem?_eq_some_iff.mp h
 refine⟨by rw [Int.toNat_natCast,List.getElem?_map,h];rfl,?_,?_⟩
 ·rw [Int.toNat_natCast,List.eraseIdx_eq_take_drop_succ,List.map_append,List.map_take,List.map_drop]
 ·rw [←List.drop_eq_getElem_cons hl,List.take_append_drop]
set_option maxHeartbeats 4000000 in
theorem Seg.dchase {a:Nat} (h:Seg k T w m scr mi ex st) (hz:z%8=a) (ha:a=0∨a=1) (q:∀ T',Seg k T' w m scr mi ex st→Q (.bool true) T'):CallY (CN (n+8)) 86 [.obj w,.int (z:Nat)] T Q:=by
 revert q
 refine h.on fun s w tg hp q=>deed_go w.W.bk.w hz ?_
 have b:=w.bd
 have hw:=w.W.bk.w
 obtain⟨hd,A,_⟩:=w.H.P
 have mm:=A.g 0
 have chs:=A.g 2
 have fl:=A.g 8
 have ha2:a<2:=ha.elim (fun e=>e▸Nat.zero_lt_two) fun e=>e▸Nat.one_lt_two
 repeat o_fieldsN
 refine ite_t (decide_eq_true (Int.ofNat_lt.mpr ha2)) ?_
 k_ownIn
 refine LenY.map chs b.ch ?_
 repeat o_fieldsN
 by_cases h0:s.g.chases.length=0
 ·refine ite_f (decide_eq_false (by rw [h0];decide)) ?_
  k_ownIn
  exact q T (w.seg tg hp)
 ·refine ite_t (decide_eq_true (Int.ofNat_lt.mpr (Nat.pos_of_ne_zero h0))) ?_
  obtain⟨j,hj,hje⟩:∃ j:Nat,j<s.g.chases.length∧((s.g.chases.length:Int)-1)*(1-(a:Int))=(j:Int):=by
   rcases ha with rfl|rfl
   ·exact⟨s.g.chases.length-1,Nat.sub_lt (Nat.pos_of_ne_zero h0) Nat.one_pos,(Int.mul_one _).trans (Int.ofNat_sub (Nat.pos_of_ne_zero h0)).symm⟩
   ·exact⟨0,Nat.pos_of_ne_zero h0,Int.mul_zero _⟩
  have hcl:s.cm.length=s.g.chases.length:=by rw [tg.chm,List.length_map]
  obtain⟨⟨m,c⟩,hp'⟩:∃ p,s.cm[j]?=some p:=⟨_,List.getElem?_eq_getElem (hcl▸hj)⟩
  have hc:s.g.chases[j]?=some c:=by rw [tg.chm,List.getElem?_map,hp'];rfl
  obtain⟨p1,p2,p3⟩:=out_at (f:=fun c:Chs=>V.obj c.id) hc
  obtain⟨r1,r2,r3⟩:=out_at (f:=fun p:Nat×Chs=>V.str (Tg.ch p.1).s) hp'
  have t:=tg.chr _ (List.mem_of_getElem? hp')
  have jl:j≤200:=Nat.le_trans (Nat.le_of_lt hj) b.ch
  k_ownIn
  refine LenY.map chs b.ch ?_
  repeat o_fieldsN
  refine BinY.int (c:=(j:Int)) ((mul_ok ?_ ?_).trans (congrArg some hje)) ?_
  ·have:=b.ch;omega
  ·omega
  k_ownIn
  refine⟨⟨Int.natCast_nonneg _,Int.ofNat_lt.mpr (ltL jl rfl),lmLe b.ch⟩,GetY.mk p1 ?_⟩
  rw [p2]
  refine PutY.intro fun T₁ h₁ c₁=>?_
  have q₁:OffP [1,2,3,4,5,6,7,8,9,10,11,12,13,14,16,17,19,20,21,22,23,24,25,26,27,28,29,30,31,32,33] T T₁:=.one c₁ h₁
  have hw₁:=q₁.g hw rfl
  have fl₁:=q₁.g fl rfl
  k_ownIn
  refine⟨⟨Int.natCast_nonneg _,Int.ofNat_lt.mpr (ltL jl rfl),lmLe (hcl▸b.ch)⟩,GetY.mk r1 ?_⟩
  rw [r2]
  refine PutY.intro fun T₂ h₂ c₂=>?_
  have q₂:OffP [1,2,3,4,5,6,7,8,9,10,11,12,13,14,16,17,18,19,20,21,23,24,25,26,27,28,29,30,31,32,33] T₁ T₂:=.one c₂ h₂
  k_ownIn
  refine sp_drop (ts:=[]) (t:=.ch m) (q₂.g hw₁ rfl) (q₂.g (q₁.g w.C.ce rfl) rfl) b.cel fun ce' T₀ T₃ c₀ h₃ hw₃ c₃=>?_
  have q₃:OffP [2,3,5,4,6,7,8,9,10,11,12,13,14,16,17,18,19,20,21,22,23,24,25,26,28,29,30,31,32,33] T₂ T₃:=(OffP.no c₀).tr (.one c₃ hw₃)
  have sub:∀ {α:Type} {l:List α} {x:α},x∈l.take j++l.drop (j+1)→x∈l:=fun h=>(List.mem_append.mp h).elim List.mem_of_mem_take List.mem_of_mem_drop
  have nd:=tg.chd
  rw [r3,List.map_append,List.map_cons] at nd
  have nd:=List.nodup_cons.mp ((List.perm_middle).nodup_iff.mp nd)
  rw [←List.map_append] at nd
  have len:(s.g.chases.take j++s.g.chases.drop (j+1)).length≤s.g.chases.length:=by
   conv=>rhs;rw [p3]
   rw [List.length_append,List.length_append];exact Nat.add_le_add_left (Nat.le_succ _) _
  have w₃:=w.drop (tt:=.ch m) (g':={s.g with chases:=s.g.chases.take j++s.g.chases.drop (j+1)}) (cm':=s.cm.take j++s.cm.drop (j+1)) (q₁.sub.tr (q₂.sub.tr q₃.sub)) h₃ hw₃ ((((w.H.put 2 c₁ h₁).put 8 c₂ h₂).off q₃.sub).fam (fun _ h=>.inl h) (ch':=s.g.chases.take j++s.g.chases.drop (j+1)) fun x hx=>.inl (sub hx))
   (by
    rw [t.2]
    show (_++(_++(s.g.chases.map Chs.rid++_))).Perm ((_++(_++((s.g.chases.take j++s.g.chases.drop (j+1)).map Chs.rid++_)))++[c.rid])
    refine pl (pl ((List.Perm.append_right _ ?_).trans pbase))
    conv=>lhs;rw [p3]
    rw [List.map_append,List.map_append,List.map_cons]
    exact List.perm_middle.trans (List.perm_append_singleton _ _).symm) rfl (Nat.le_refl _) len (Nat.le_refl _)
  have tg':TgW s.f.count s.mi.iv {s.g with chases:=s.g.chases.take j++s.g.chases.drop (j+1)} (dropC s.cells (.ch m)) (s.cm.take j++s.cm.drop (j+1)) s.tx:=tg.drop (ltL (Nat.le_trans t.1 b.cnt) rfl) (ltL b.cnt rfl) (ltL b.he rfl) tne (by
    show s.g.chases.take j++s.g.chases.drop (j+1)=_
    rw [tg.chm,List.map_append,List.map_take,List.map_drop]) (fun p hp'=>⟨sub hp',fun e=>nd.1 (Tg.ch.inj e▸List.mem_map_of_mem (f:=(·.1)) hp')⟩) nd.2 (fun f hf=>⟨hf,tne⟩) tg.frd (fun j r hj=>⟨hj,tne⟩) (fun m h=>.inl h)
  k_ownIn
  exact q T₃ (w₃.seg tg' hp)
end
set_option genInjectivity false
theorem IdxPut.l0 {T:TH} {o:Nat} {k:K} {a v:V} {l:List V} {Q:TH→Prop} (e:T[o]?=some (k,.list (a::l))) (h:PutY T o k (.list (v::l)) Q):IdxPut T o v Q (.int 0):=.list e ⟨Int.le_refl _,Int.ofNat_lt.mpr (Nat.succ_pos _),by decide⟩ h
theorem Mem.cells2 {k:Nat} {s:Gs} {T:TH} (w:Mem k s T) (hp:s.pend=[]) (hs:2≤s.g.statics.length) (hx:s.ex.length≤1):2≤s.cells.length:=by
 have e:=w.perm.length_eq
 rw [hp,List.append_nil] at e
 have e':s.g.statics.length+2≤(rootsW s.mi s.g).length:=by
  unfold rootsW
  rw [List.length_append,List.length_append,List.length_append,List.length_append,List.length_append,List.length_append,List.length_map]
  simp only [List.length_cons,List.length_nil]
  omega
 rw [e,List.length_append,List.length_map] at e'
 omega
section
variable {n k z w m scr:Nat} {mi:MId} {ex:List Nat} {st:List (Int×Nat)} {T:TH} {Q:V→TH→Prop}
set_option maxHeartbeats 4000000 in
theorem Seg.dset {a:Nat} (h:Seg k T w m scr mi ex st) (hk:k+1≤180) (hz:z%8=a) (ha:a=5∨a=6) (hs:2≤st.length) (hx:ex.length≤1) (q:∀ T',Seg (k+1) T' w m scr mi ex st→Q (.bool true) T'):CallY (CN (n+8)) 86 [.obj w,.int (z:Nat)] T Q:=by
 revert q hs hx
 refine h.on fun s w tg hp hs hx q=>deed_go w.W.bk.w hz ?_
 have b:=w.bd
 have hw:=w.W.bk.w
 have hce:=w.C.ce
 have c2:=w.cells2 hp hs hx
 obtain⟨len,hlen⟩:∃ len,s.cells.length=len+1:=⟨s.cells.length-1,by omega⟩
 rw [hlen] at c2
 have bl:len≤1599:=Nat.le_of_succ_le_succ (Nat.le_trans (Nat.le_of_eq hlen.symm) b.cel)
 have pos:0<len:=Nat.le_of_succ_le_succ c2
 k_ownIn
 refine LenY.mapN (n:=1600) hce hlen (Nat.succ_le_succ bl) ?_
 refine BinY.int (c:=(len:Int)) (congrArg some (by omega)) ?_
 refine BinY.modN pos ?_
 have hlt:z/8%len<len:=Nat.mod_lt _ pos
 generalize z/8%len=j at hlt ⊢
 obtain⟨c,hc⟩:∃ c,s.cells[j+1]?=some c:=⟨_,List.getElem?_eq_getElem (hlen▸Nat.succ_lt_succ hlt)⟩
 have hcm:=List.mem_of_getElem? hc
 have hsp:=w.C.spec c hcm
 have hrw:=w.C.row c hcm
 refine BinY.int (c:=((j+1:Nat):Int)) (congrArg some (by omega)) ?_
 refine IdxY.list hce (at_nat (v:=c.v) (by rw [List.getElem?_map,hc];rfl) (Nat.lt_of_le_of_lt (Nat.succ_le_of_lt hlt) (ltL bl rfl))) ?_
 unfold Ce.v
 k_ownIn
 refine LenY.map hsp (w.C.len c hcm) ?_
 repeat o_fieldsN
 cases hs0:c.specs with
 | nil =>
  refine ite_f rfl ?_
  k_ownIn
  exact q T ((w.up 1 hk).seg tg hp)
 | cons s0 rest =>
  refine ite_t (decide_eq_true (Int.ofNat_lt.mpr (Nat.succ_pos _))) ?_
  rw [hs0] at hsp hrw
  have hrd:c.rid≠s.h.rdy:=fun e=>w.rdy (e▸List.mem_append_left _ (List.mem_map_of_mem hcm))
  have rok:∀ x∈rest,x.Ok s.ts:=fun x hx=>w.C.ok c hcm x (by rw [hs0];exact .tail _ hx)
  have hl:(s0::rest).length≤10:=hs0▸w.C.len c hcm
  obtain⟨hd,A,_⟩:=w.H.P
  have txd:=A.g 9
  have inn:=A.g 10
  k_ownIn
  refine IdxPut.l0 hsp (PutY.intro fun T₁ g₁ c₁=>?_)
  have q₁:OffP [1,2,3,5,11,12,13,14,21,23,24,25,26,27,29,30,31] T T₁:=.one c₁ g₁
  have hw₁:=q₁.g hw rfl
  have hr₁:=q₁.g hrw rfl
  have W₁:=w.W.off q₁.sub (q₁.g w.W.hb.rdy rfl)
  rcases ha with rfl|rfl
  ·k_ownIn
   refine sp_fresh W₁ (leL b.made rfl) fun f' hf' ts' T₂ W₂ n1 n2 n3 hf c₂=>?_
   have ok:=fresh_ok n3 hf
   have q₂:OffP [21,23,27,29,32] T₁ T₂:=.ks c₂
   have hw₂:=W₂.bk.w
   have g₂:=q₂.g g₁ rfl
   k_ownIn
   refine IdxPut.l0 g₂ (PutY.intro fun T₃ g₃ c₃=>?_)
   have q₃:OffP [1,2,3,5,11,12,13,14,21,23,24,25,26,27,29,30,31] T₂ T₃:=.one c₃ g₃
   have hr₃:=q₃.g (q₂.g hr₁ rfl) rfl
   have rdy₃:=q₃.g W₂.hb.rdy rfl
   have W₃:=W₂.off q₃.sub rdy₃
   k_ownIn
   refine sp_value (s:=⟨0,f'.made,0⟩) W₃.bk.w W₃.bk.wh ok ?_
   k_ownIn
   refine IdxPut.l0 hr₃ (PutY.intro fun T₄ h₄ c₄=>?_)
   have q₄:OffP [1,2,3,5,11,12,13,14,21,23,24,25,26,27,30,31,32] T₃ T₄:=.one c₄ h₄
   have W₄:=W₃.off q₄.sub (c₄.other rdy₃ hrd.symm)
   have up:OffP [21,23] T T₄:=q₁.sub.tr (q₂.sub.tr (q₃.sub.tr q₄.sub))
   have cc:Chg (setX c) T T₄:=c₄.back (c₃.back (c₂.back ((c₁.back (.refl _ _) side_same).weaken fun _ _ q=>.inr (.inr q)) fun _ _ _ _ q=>.inl ((by decide:∀ k∈([.hp,.tl,.at_,.w,.ag,.wh,.wt]:List K),k∈([.hp,.tl,.at_,.w,.ag,.wh,.wt,.inn,.tx]:List K)) _ q)) fun _ _ _ _ q=>.inr (.inr q)) fun _ _ _ _ q=>.inr (.inl q)
   have hrow:rest.map (Spec.val (whOf s.ts))=rest.map (Spec.val (whOf ts')):=List.map_congr_left fun x hx=>(n2.val x (rok x hx)).symm
   have w₄:=w.setf (specs:=⟨0,f'.made,0⟩::rest) hk W₄ n1 (Nat.le_of_ble_eq_true rfl) n2 hc cc (up.g txd rfl) (up.g inn rfl) w.txn (by rw [List.map_cons,←hrow];exact h₄) (q₄.g g₃ rfl) (List.forall_mem_cons.mpr ⟨ok,fun x hx=>n2.ok x (rok x hx)⟩) hl
   have tg':=tg.setc (tx':=s.tx) (specs:=⟨0,f'.made,0⟩::rest) (ltL b.cnt rfl) (ltL b.he rfl) hc (fun _=>Nat.succ_pos _) (fun e=>nomatch e) fun _=>rfl
   k_ownIn
   exact q T₄ (w₄.seg (tg'.ct n1.count) hp)
  ·have ok:Spec.Ok ⟨0,0,0⟩ s.ts:=⟨Nat.zero_le _,Nat.zero_le _,fun h=>absurd (show 0<0 from h) (Nat.lt_irrefl 0),fun h=>(nomatch (show 0=1 from h))⟩
   k_ownIn
   refine sp_value (s:=⟨0,0,0⟩) hw₁ W₁.bk.wh ok ?_
   k_ownIn
   refine IdxPut.l0 hr₁ (PutY.intro fun T₄ h₄ c₄=>?_)
   have q₄:OffP [1,2,3,5,11,12,13,14,21,23,24,25,26,27,30,31,32] T₁ T₄:=.one c₄ h₄
   have W₄:=W₁.off q₄.sub (c₄.other (q₁.g w.W.hb.rdy rfl) hrd.symm)
   have up:OffP [21,23] T T₄:=q₁.sub.tr q₄.sub
   have cc:Chg (setX c) T T₄:=c₄.back ((c₁.back (.refl _ _) side_same).weaken fun _ _ q=>.inr (.inr q)) fun _ _ _ _ q=>.inr (.inl q)
   have w₄:=w.setf (specs:=⟨0,0,0⟩::rest) hk W₄ (.refl _ 0) (Nat.zero_le _) (.refl _) hc cc (up.g txd rfl) (up.g inn rfl) w.txn h₄ (q₄.g g₁ rfl) (List.forall_mem_cons.mpr ⟨ok,rok⟩) hl
   have tg':=tg.setc (tx':=s.tx) (specs:=⟨0,0,0⟩::rest) (ltL b.cnt rfl) (ltL b.he rfl) hc (fun _=>Nat.succ_pos _) (fun e=>nomatch e) fun _=>rfl
   k_ownIn
   exact q T₄ (w₄.seg tg' hp)
end
set_option genInjectivity false
theorem sp_before {n:Nat} {a b:V} {T:TH} {Q:V→TH→Prop} (k:∀ v,Q v T):CallY (CN (n+1)) 58 [a,b] T Q:=by
 refine call_fn (fd:=fd_Sweeper_before) (by rfl) (by rfl) ?_
 refine (?_:SV _ [some a,some b] _ _ _)
 k_ownIn
 exact k _
theorem sp_fslots {n:Nat} {a c:V} {T:TH} {Q:V→TH→Prop} (k:∀ o T',T[o]?=none→T'[o]?=some (.slots,.list [.tup [.int 8,.str (Str.ofString "")]])→Chg noX T T'→Q (.obj o) T'):CallY (CN (n+1)) 63 [a,.int 13,c] T Q:=by
 refine call_fn (fd:=fd_first_slots) (by rfl) (by rfl) ?_
 refine (?_:SV _ [some a,some (.int 13),some c,none,none,none] _ _ _)
 k_ownIn
 refine AnyK.mk .slots ?_
 k_ownIn
 rename_i o T₁ hn₁ h₁ c₁
 exact k o T₁ hn₁ h₁ c₁
theorem HB.pid {h:Hid} {ts:List Th} {f:Hn} {T:TH} {a:Th} (p:Nat) (b:HB h (ts++[a]) f T):HB h (ts++[{a with pid:=p}]) f T:=by
 obtain⟨b1,b2,b3,b4,b5,b6,b7⟩:=b
 refine⟨?_,?_,?_,b4,b5,b6,fun t ht=>?_⟩
 ·rw [b1,endOf_snoc,endOf_snoc];rfl
 ·rw [b2,List.map_append,List.map_append];rfl
 ·rw [b3];unfold atOf;rw [List.map_append,List.map_append];rfl
 ·rcases List.mem_append.mp ht with q|q
  ·exact b7 t (List.mem_append_left _ q)
  ·rw [List.mem_singleton] at q;subst q
   exact b7 a (List.mem_append_right _ (List.mem_singleton.mpr rfl))
noncomputable def text0:V:=.tup [.int 8,.str (Str.ofString "")]
theorem sp_athing {n m:Nat} {mi:MId} {hd:V} {h:Hid} {ts:List Th} {f:Hn} {T:TH} {specs:List Spec} {pid:Nat} {Q:V→TH→Prop} (hb:HB h ts f T) (hp:Packed 16 ts) (hlim:ts.length≤50000) (mm:T[m]?=some (.m,mi.obj h.hp hd)) (sw:T[mi.sw]?=some (.oth,.inst 8 [])) (he:specs.length=1)
  (k:∀ t sl T',T[t]?=none→T[sl]?=none→T'[sl]?=some (.slots,.list [text0])→HB h (ts++[⟨f.made+1,13,specs,0,endOf ts,t,sl,pid⟩]) {f with fresh:=f.fresh+3,made:=f.made+1} T'→Chg (ksX [.hp,.tl,.at_]) T T'→Q (.obj t) T'):CallY (CN (n+4)) 64 [.obj m,.int 13,.int 1] T Q:=by
 refine call_fn (fd:=fd_alloc_thing) (by rfl) (by rfl) ?_
 refine (?_:SV _ [some (.obj m),some (.int 13),some (.int 1)] _ _ _)
 k_ownIn
 refine sp_before fun v=>?_
 k_ownIn
 refine sp_fslots fun sl T₁ hn₁ h₁ c₁=>?_
 k_ownIn
 refine sp_alloc (pid:=pid) (specs:=specs) (hb.keep0 c₁) hp hlim h₁ ⟨by decide,by decide⟩ he fun t T₂ hn₂ hb₂ c₂=>?_
 exact k t sl T₂ (none_back hn₂ (c₁.weaken fun _ _ _=>trivial)) hn₁ (c₂.get h₁ (nk (by decide))) hb₂ (c₂.back (c₁.weaken fun _ _ q=>q.elim) fun _ _ _ _ q=>q)
theorem sp_salloc {n m:Nat} {T:TH} {a b:V} {Q:V→TH→Prop} (k:CallY (CN n) 64 [.obj m,a,b] T Q):CallY (CN (n+1)) 60 [.obj m,a,b] T Q:=by
 refine call_fn (fd:=fd_Shelf_alloc) (by rfl) (by rfl) ?_
 refine (?_:SV _ [some (.obj m),some a,some b] _ _ _)
 k_ownIn
 exact k
theorem sp_stref {n m:Nat} {T:TH} {a:V} {Q:V→TH→Prop} (k:CallY (CN n) 66 [.obj m,a] T Q):CallY (CN (n+1)) 61 [.obj m,a] T Q:=by
 refine call_fn (fd:=fd_Shelf_text_ref) (by rfl) (by rfl) ?_
 refine (?_:SV _ [some (.obj m),some a] _ _ _)
 k_ownIn
 exact k
theorem sp_sntext {n m:Nat} {T:TH} {a:V} {Q:V→TH→Prop} (k:CallY (CN n) 65 [.obj m,a] T Q):CallY (CN (n+1)) 62 [.obj m,a] T Q:=by
 refine call_fn (fd:=fd_Shelf_new_text) (by rfl) (by rfl) ?_
 refine (?_:SV _ [some (.obj m),some a] _ _ _)
 k_ownIn
 exact k
theorem sp_made {n m:Nat} {mi:MId} {hd:V} {h:Hid} {ts:List Th} {f:Hn} {T:TH} {wd:Str} {specs:List Spec} {pid:Nat} {Q:V→TH→Prop} (hb:HB h ts f T) (hp:Packed 16 ts) (hlim:ts.length≤50000) (mm:T[m]?=some (.m,mi.obj h.hp hd)) (sw:T[mi.sw]?=some (.oth,.inst 8 [])) (he:specs.length=1)
  (k:∀ t sl T',T[t]?=none→T[sl]?=none→T'[sl]?=some (.slots,.list [.tup [.int 8,.str wd]])→HB h (ts++[⟨f.made+1,13,specs,0,endOf ts,t,sl,pid⟩]) {f with fresh:=f.fresh+3,made:=f.made+1} T'→Chg (ksX [.hp,.tl,.at_]) T T'→Q (refV (endOf ts)) T'):CallY (CN (n+6)) 65 [.obj m,.str wd] T Q:=by
 refine call_fn (fd:=fd_made_text) (by rfl) (by rfl) ?_
 refine (?_:SV _ [some (.obj m),some (.str wd),none] _ _ _)
 have mm':=mm
 k_ownIn
 refine sp_salloc (sp_athing (specs:=specs) (pid:=pid) hb hp hlim mm sw he fun t sl T₁ hnt hns hsl hb₁ c₁=>?_)
 have ht:=hb₁.th _ (List.mem_append_right _ (List.mem_singleton.mpr rfl))
 unfold Th.obj at ht
 dsimp only at ht
 k_ownIn
 refine IdxPut.list hsl ⟨by decide,by decide,by decide⟩ ?_
 refine PutY.intro ?_
 intro T₂ h₂ c₂
 have ht₂:=c₂.otherK ht h₂ (by decide)
 k_ownIn
 have cs:Chg (ksX [.slots]) T₁ T₂:=c₂.back (.refl _ _) (side_kind hsl (by decide))
 exact k t sl T₂ hnt hns h₂ (hb₁.keep cs (fun _=>⟨nk (by decide),nk (by decide),nk (by decide),nk (by decide),nk (by decide),nk (by decide)⟩) (nk (by decide))) (c₂.back c₁ (side_fresh hns))
theorem zi_none {α:Type} [DecidableEq α] (f:Nat→α) {n:Nat}:∀ (tx:List Nat) (k:Nat),(∀ m∈tx,f m≠f n)→dget ((tx.zipIdx k).map fun p=>(f p.1,V.int (p.2:Int))) (f n)=none
 | [],_,_=>rfl
 | a::r,k,h=>by
  rw [List.zipIdx_cons,List.map_cons]
  unfold dget
  rw [if_neg (h a (.head _))]
  exact zi_none f r (k+1) fun m hm=>h m (.tail _ hm)
theorem zi_some {α:Type} [DecidableEq α] (f:Nat→α) {n:Nat}:∀ (tx:List Nat) (k:Nat),(∀ m∈tx,f m=f n→m=n)→tx.Nodup→∀ j:Nat,tx[j]?=some n→dget ((tx.zipIdx k).map fun p=>(f p.1,V.int (p.2:Int))) (f n)=some (.int ((k+j:Nat):Int))
 | [],_,_,_,_,h=>by cases h
 | a::r,k,hi,hd,j,hj=>by
  rw [List.zipIdx_cons,List.map_cons]
  unfold dget
  rw [List.nodup_cons] at hd
  cases j with
  | zero =>
   have hj:a=n:=by simpa using hj
   rw [if_pos (by rw [hj])];rfl
  | succ j =>
   have hj:r[j]?=some n:=by simpa using hj
   rw [if_neg fun q=>hd.1 (by rw [hi a (.head _) q];exact List.mem_of_getElem? hj)]
   rw [zi_some f r (k+1) (fun m hm=>hi m (.tail _ hm)) hd.2 j hj]
   congr 3
   omega
theorem words_inj {a b:Nat} (ha:a≤2) (hb:b≤2) (h:words a=words b):a=b:=by
 have:∀ a:Fin 3,∀ b:Fin 3,words a=words b→a=b:=by decide +kernel
 have:=this ⟨a,by omega⟩ ⟨b,by omega⟩ h
 exact congrArg Fin.val this
theorem tx_snoc {tx:List Nat} {n:Nat}:txD (tx++[n])=txD tx++[((n:Int),.int tx.length)]∧txS (tx++[n])=txS tx++[(words n,.int tx.length)]:=by
 unfold txD txS
 rw [List.zipIdx_append,List.map_append,List.map_append]
 constructor<;>simp
theorem tx_none {tx:List Nat} {n:Nat} (h:n∉tx) (hl:∀ m∈tx,m≤2) (hn:n≤2):dget (txD tx) n=none∧dget (txS tx) (words n)=none :=
 ⟨zi_none (fun x:Nat=>(x:Int)) tx 0 fun m hm e=>h (by have e:(m:Int)=n:=e;rw [←show m=n by omega];exact hm),zi_none words tx 0 fun m hm e=>h (words_inj (hl m hm) hn e▸hm)⟩
theorem tx_some {tx:List Nat} {n j:Nat} (h:tx[j]?=some n) (hd:tx.Nodup) (hl:∀ m∈tx,m≤2):dget (txD tx) n=some (.int j)∧dget (txS tx) (words n)=some (.int j):=by
 have hn:=hl n (List.mem_of_getElem? h)
 have h1:=zi_some (fun x:Nat=>(x:Int)) tx 0 (fun m hm e=>by have e:(m:Int)=n:=e;omega) hd j h
 have h2:=zi_some words tx 0 (fun m hm e=>words_inj (hl m hm) hn e) hd j h
 rw [Nat.zero_add] at h1 h2
 exact⟨h1,h2⟩
theorem whOf_new {ts:List Th} {t:Th} (h:∀ u∈ts,u.ser≠t.ser):whOf (ts++[t]) t.ser=t.addr:=by
 unfold whOf
 rw [List.find?_append,List.find?_eq_none.mpr fun u hu=>by simpa using h u hu]
 simp
theorem HW.more' {i:WId} {f:WN} {h:Hid} {hf hf':Hn} {ts:List Th} {t:Th} {T T':TH} (b:HW i f h hf ts T) (hb':HB h (ts++[t]) hf' T') (bk':Bk i {f with made:=f.made+1,top:=f.top+t.size} (ts++[t]) T') (c:OffP [2,30] T T') (hm:hf'.made=hf.made+1)
  (h1:t.addr=endOf ts) (h2:t.ser=f.made+1) (h3:t.age=0) (hok:∀ s∈t.specs,s.Ok ts) (hage:∀ s∈t.specs,∀ v,tgt ts s=some v→v.age=0) (hlen:t.specs.length≤10) (htid:T[t.tid]?=none) (hsid:T[t.sid]?=none) (hsl:T'[t.sid]?=some (.slots,.list (t.specs.map (Spec.val (whOf ts))))) :
  HW i {f with made:=f.made+1,top:=f.top+t.size} h hf' (ts++[t]) T':=by
 refine⟨hb',one_snoc (fun u hu=>?_) ?_,b.good.snoc h1 (fun u hu=>h2▸Nat.lt_succ_of_le (b.bk.made u hu)) h3 hok hage hlen (fun u hu=>ne_none (b.hb.th u hu) htid) (fun u hu=>ne_none (b.sl u hu) hsid) (h2▸Nat.succ_pos _),bk',hm.trans (congrArg (·+1) b.made),b.sh.elim fun fs h=>⟨fs,c.g h.1 rfl,h.2⟩⟩
 ·rw [List.map_congr_left fun s hs=>val_append (b.good.ok u hu s hs)]
  exact c.g (b.sl u hu) rfl
 ·rw [List.map_congr_left fun s hs=>val_append (hok s hs)]
  exact hsl
theorem Bk.off {i:WId} {f:WN} {ts:List Th} {T T':TH} (b:Bk i f ts T) (q:OffP [1,24,25,26,31] T T'):Bk i f ts T':=⟨q.g b.w rfl,q.g b.ag rfl,q.g b.wh rfl,b.wt.elim fun wl h=>⟨wl,q.g h.1 rfl,h.2⟩,fun t ht=>q.g (b.pid t ht) rfl,b.top,b.made⟩
theorem HB.offP {h:Hid} {ts:List Th} {f:Hn} {T T':TH} (b:HB h ts f T) (q:OffP [3,5,11,12,13,14,29] T T'):HB h ts f T':=⟨q.g b.hp rfl,q.g b.tl rfl,q.g b.at_ rfl,q.g b.cd rfl,q.g b.fin rfl,q.g b.rdy rfl,fun t ht=>q.g (b.th t ht) rfl⟩
theorem sp_told {n m j:Nat} {mi:MId} {hp:Nat} {hd v:V} {T:TH} {wd:Str} {dl:List (Str×V)} {l:List V} {Q:V→TH→Prop} (mm:T[m]?=some (.m,mi.obj hp hd)) (inn:T[mi.inn]?=some (.inn,.ds dl)) (iv:T[mi.iv]?=some (.real,.list l)) (hj:dget dl wd=some (.int j)) (hv:l[j]?=some v) (hb:j<1000000) (k:Q v T):CallY (CN (n+1)) 66 [.obj m,.str wd] T Q:=by
 refine call_fn (fd:=fd_interned_text) (by rfl) (by rfl) ?_
 refine (?_:SV _ [some (.obj m),some (.str wd),none,none] _ _ _)
 k_ownIn
 rw [hj]
 k_ownIn
 refine IdxY.list iv (at_nat hv hb) ?_
 k_ownIn
 exact k
theorem sp_tnew {n m:Nat} {mi:MId} {hd:V} {h:Hid} {ts:List Th} {f:Hn} {T:TH} {wd:Str} {specs:List Spec} {pid:Nat} {dl:List (Str×V)} {l:List V} {Q:V→TH→Prop} (hb:HB h ts f T) (hp:Packed 16 ts) (hlim:ts.length≤50000) (mm:T[m]?=some (.m,mi.obj h.hp hd)) (sw:T[mi.sw]?=some (.oth,.inst 8 [])) (he:specs.length=1) (inn:T[mi.inn]?=some (.inn,.ds dl)) (hdl:dget dl wd=none) (hd2:dl.length<1000) (iv:T[mi.iv]?=some (.real,.list l)) (hl:l.length<1000) (hrd:mi.iv≠h.rdy)
  (k:∀ t sl T',T[t]?=none→T[sl]?=none→T'[sl]?=some (.slots,.list [.tup [.int 8,.str wd]])→HB h (ts++[⟨f.made+1,13,specs,0,endOf ts,t,sl,pid⟩]) {f with fresh:=f.fresh+3,made:=f.made+1} T'→T'[mi.inn]?=some (.inn,.ds (dl++[(wd,.int l.length)]))→T'[mi.iv]?=some (.real,.list (l++[refV (endOf ts)]))→Chg (fun i k=>ksX [.hp,.tl,.at_,.inn] i k∨i=mi.iv) T T'→Q (refV (endOf ts)) T'):CallY (CN (n+8)) 66 [.obj m,.str wd] T Q:=by
 refine call_fn (fd:=fd_interned_text) (by rfl) (by rfl) ?_
 refine (?_:SV _ [some (.obj m),some (.str wd),none,none] _ _ _)
 have mm':=mm
 k_ownIn
 rw [hdl]
 k_ownIn
 refine sp_sntext (sp_made (specs:=specs) (pid:=pid) hb hp hlim mm sw he fun t sl T₁ hnt hns hsl hb₁ c₁=>?_)
 have inn₁:=c₁.get inn (nk (by decide))
 have iv₁:=c₁.get iv (nk (by decide))
 k_ownIn
 refine LenY.list iv₁ (by unfold limit;omega) ?_
 k_ownIn
 refine IdxPut.ds inn₁ (by unfold limit;omega) ?_
 rw [dput_none hdl]
 refine PutY.intro ?_
 intro T₂ h₂ c₂
 have iv₂:=c₂.otherK iv₁ h₂ (by decide)
 have mm₂:=c₂.otherK (c₁.get mm' (nk (by decide))) h₂ (by decide)
 k_ownIn
 refine⟨by unfold limit;omega,?_⟩
 refine PutY.intro ?_
 intro T₃ h₃ c₃
 have cs₂:Chg (ksX [.inn]) T₁ T₂:=c₂.back (.refl _ _) (side_kind inn₁ (by decide))
 have q₂:OffP [3,5,11,12,13,14,29,30] T₁ T₂:=.one c₂ h₂
 have q₃:OffP [3,5,11,12,13,14,21,30] T₂ T₃:=.one c₃ h₃
 have b:=hb₁.offP q₂.sub
 k_ownIn
 exact k t sl T₃ hnt hns (q₃.g (q₂.g hsl rfl) rfl) ⟨q₃.g b.hp rfl,q₃.g b.tl rfl,q₃.g b.at_ rfl,q₃.g b.cd rfl,q₃.g b.fin rfl,c₃.other b.rdy hrd.symm,fun t ht=>q₃.g (b.th t ht) rfl⟩ (q₃.g h₂ rfl) h₃
  (c₃.back (cs₂.back (c₁.weaken fun _ _ q=>.inl ((by decide:∀ k∈([.hp,.tl,.at_]:List K),k∈([.hp,.tl,.at_,.inn]:List K)) _ q)) fun _ _ _ _ q=>.inl ((by decide:∀ k∈([.inn]:List K),k∈([.hp,.tl,.at_,.inn]:List K)) _ q)) fun _ _ _ _ q=>.inr q)
theorem dok_val {T:TH} {s:Spec} {wh:Nat→Nat} {Q:Bool→Prop} (q:Q true):CmpY T Q .eq (s.val wh) (s.val wh):=by
 have h:DOk T 8 (s.val wh):=DOk.val (n:=3)
 have e:∃ l,s.val wh=.tup l:=by
  unfold Spec.val Spec.valA
  split<;>exact⟨_,rfl⟩
 obtain⟨l,e⟩:=e
 rw [e] at h ⊢
 exact CmpY.eq_tup h q
theorem tx_len {l:List Nat} (h:l.Nodup) (h2:∀ m∈l,m≤2):l.length≤3:=h.length_le_of_subset (l₂:=[0,1,2]) fun x hx=>(List.mem_range (n:=3)).mpr (Nat.lt_succ_of_le (h2 x hx))
theorem word_at {x:Nat} (hx:x≤2) {T:TH} {Q:V→Prop} (q:Q (.str (words x))):IdxY T Q (.tup [.str (words 0),.str (words 1),.str (words 2)]) (.int (x:Int)):=by
 refine .tupN (v:=.str (words x)) ?_ (ltL hx rfl) q
 match x,hx with
 | 0,_=>rfl
 | 1,_=>rfl
 | 2,_=>rfl
theorem dok_eq {T:TH} {s:Spec} {wh:Nat→Nat} {v:V} {Q:Bool→Prop} (e:s.val wh=v) (q:Q true):CmpY T Q .eq v (s.val wh):=e▸dok_val q
set_option genInjectivity false
theorem txD_ne {tx:List Nat} {x:Nat} (h:x∉tx):∀ p∈txD tx,p.1≠(x:Int):=fun p hp e=>by
 obtain⟨y,hy,rfl⟩:=List.mem_map.mp hp
 exact h (Int.ofNat_inj.mp (show ((y.1:Nat):Int)=(x:Int) from e)▸List.fst_mem_of_mem_zipIdx hy)
section
variable {n k x w m scr:Nat} {mi:MId} {ex:List Nat} {st:List (Int×Nat)} {T:TH} {Q:V→TH→Prop} {s:Gs}
theorem tx_go {ct:Ce} {i:WId} {f:WN} {cl:List V} {hp:Nat} {hd:V} (hw:T[i.w]?=some (.w,i.obj f)) (mm:T[i.m]?=some (.m,mi.obj hp hd)) (hce:T[i.ce]?=some (.ce,.list (ct.v::cl))) (hx:x≤2)
  (q:CallY (CN (n+8)) 66 [.obj i.m,.str (words x)] T fun v T'=>SV (CN (n+9)) [some (.obj i.w),some (.int (x:Nat)),some (.str ct.tag),some (.obj ct.rid),some (.obj ct.pid),some v] (fd_law_text.body.drop 2) T' fun r T=>Q (r.1.getD .none) T):CallY (CN (n+10)) 81 [.obj i.w,.int (x:Nat)] T Q:=by
 refine call_fn (fd:=fd_law_text) (by rfl) (by rfl) ?_
 refine (?_:SV _ [some (.obj i.w),some (.int x),none,none,none,none] _ _ _)
 unfold Ce.v at hce
 k_ownIn
 refine word_at hx ?_
 k_ownIn
 exact sp_stref q
theorem Mem.tcell (w:Mem k s T) {ct:Ce} {rest:List Ce} (h:s.cells=ct::rest):T[s.i.ce]?=some (.ce,.list (ct.v::rest.map Ce.v))∧ct∈s.cells∧s.cells[0]?=some ct:=by
 refine⟨?_,h▸.head _,by rw [h];rfl⟩
 have:=w.C.ce
 rw [h] at this;exact this
theorem tx_old (w:Mem k s T) (tg:s.Tgs) (hx:x≤2) (hm:x∈s.tx) (q:Q (.bool true) T):CallY (CN (n+10)) 81 [.obj s.i.w,.int (x:Nat)] T Q:=by
 obtain⟨hd,A,_⟩:=w.H.P
 have mm:=A.g 0
 obtain⟨ct,rest,hcs,ht1,ht2,ht3⟩:=tg.hd0
 obtain⟨hce,hcm,_⟩:=w.tcell hcs
 have hw:=w.W.bk.w
 obtain⟨j,hj⟩:=List.getElem?_of_mem hm
 have hjl:=(List.getElem?_eq_some_iff.mp hj).1
 have d:=tx_some hj w.txn.1 w.txn.2
 obtain⟨sp,hsj⟩:∃ sp,ct.specs[j]?=some sp:=⟨_,List.getElem?_eq_getElem (ht3▸hjl)⟩
 have hj3:j<1000000:=Nat.lt_of_lt_of_le hjl (Nat.le_trans (tx_len w.txn.1 w.txn.2) (by decide))
 have hsp:=w.C.spec ct hcm
 have txd:=A.g 9
 refine tx_go hw mm hce hx (sp_told (j:=j) (v:=sp.val (whOf s.ts)) mm (A.g 10) (ht2▸w.C.row ct hcm) d.2 (by rw [List.getElem?_map,hsj];rfl) hj3 ?_)
 k_ownIn
 refine CmpY.nmem_di txd ?_
 rw [d.1]
 k_ownIn
 refine IdxY.di txd d.1 ?_
 k_ownIn
 refine IdxY.list hsp (at_nat (v:=sp.v) (by rw [List.getElem?_map,hsj];rfl) hj3) ?_
 k_ownIn
 refine sp_value hw w.W.bk.wh (w.C.ok ct hcm sp (List.mem_of_getElem? hsj)) (dok_val ?_)
 k_ownIn
 exact q
theorem side_in {X Z:Nat→K→Prop} {T:TH} (h:∀ i k,X i k→Z i k):∀ (i:Nat) (k:K) (o:O),T[i]?=some (k,o)→X i k→Z i k:=fun i k _ _ q=>h i k q
theorem ks_in {ks ks':List K} (h:∀ k∈ks,k∈ks'):∀ (i:Nat) (k:K),ksX ks i k→ksX ks' i k:=fun _ _ q=>h _ q
set_option maxHeartbeats 4000000 in
theorem tx_new (w:Mem k s T) (tg:s.Tgs) (hp:s.pend=[]) (hk:k+1≤180) (hx:x≤2) (hm:x∉s.tx) (q:∀ T',Seg (k+1) T' s.i.w s.i.m s.i.scr s.mi s.ex s.g.statics→Q (.bool true) T'):CallY (CN (n+10)) 81 [.obj s.i.w,.int (x:Nat)] T Q:=by
 obtain⟨hd,A,_⟩:=w.H.P
 have mm:=A.g 0
 obtain⟨ct,rest,hcs,ht1,ht2,ht3⟩:=tg.hd0
 obtain⟨hce,hcm,hc0⟩:=w.tcell hcs
 have b:=w.bd
 have hw:=w.W.bk.w
 have hsp:=w.C.spec ct hcm
 have hrw:=w.C.row ct hcm
 have iv:=ht2▸hrw
 have txd:=A.g 9
 have txl:=tx_len w.txn.1 w.txn.2
 have d:=tx_none hm w.txn.2 hx
 have e:=tx_snoc (tx:=s.tx) (n:=x)
 have hrd:s.mi.iv≠s.h.rdy:=fun e=>w.rdy (by rw [←e,←ht2];exact List.mem_append_left _ (List.mem_map_of_mem hcm))
 have hlen:s.ts.length≤6000:=Nat.le_trans (good_len w.W) b.made
 have cl3:ct.specs.length≤3:=ht3▸txl
 have hdl:(txS s.tx).length≤3:=by unfold txS;rw [List.length_map,List.length_zipIdx];exact txl
 have hdl':(txD s.tx).length≤3:=by unfold txD;rw [List.length_map,List.length_zipIdx];exact txl
 refine tx_go hw mm hce hx (sp_tnew (specs:=[⟨7,0,x⟩]) (pid:=0) w.W.hb w.W.good.packed (leL hlen rfl) mm (A.g 6) rfl (A.g 10) d.2 (ltL hdl rfl) iv (by rw [List.length_map];exact ltL cl3 rfl) hrd fun tid sid T₁ hnt hns hsl hb₁ inn₁ iv₁ c₁=>?_)
 rw [List.length_map,ht3,←e.2] at inn₁
 have cR:Chg (ksX [.real,.hp,.tl,.at_,.inn]) T T₁:=c₁.back (.refl _ _) fun i' k' o' h q=>by
  rcases q with q|q
  ·exact .tail _ q
  ·rw [q] at h;rw [same_kind h iv];exact .head _
 have q₁:OffP [1,2,23,24,25,26,27,30,31,32] T T₁:=.ks cR
 have txd₁:=q₁.g txd rfl
 have hw₁:=q₁.g hw rfl
 have hsp₁:=q₁.g hsp rfl
 k_ownIn
 refine CmpY.nmem_di txd₁ ?_
 rw [d.1]
 k_ownIn
 refine LenY.mapN (n:=3) hsp₁ ht3 txl ?_
 k_ownIn
 refine IdxPut.di txd₁ (ltL hdl' rfl) ?_
 rw [dput_none d.1,←e.1]
 refine PutY.intro fun T₂ h₂ c₂=>?_
 have q₂:OffP [1,2,3,5,11,12,13,14,21,24,25,26,27,29,30,31,32] T₁ T₂:=.one c₂ h₂
 have hw₂:=q₂.g hw₁ rfl
 k_ownIn
 refine AnyK.mk .tspec ?_
 k_ownIn
 rename_i pid T₃ hn₃ h₃ c₃
 refine sp_noted (t:=⟨s.hf.made+1,13,[⟨7,0,x⟩],0,endOf s.ts,tid,sid,pid⟩) (w.W.bk.off (q₁.sub.tr (q₂.sub.tr (.no c₃)))) (leL b.made rfl) (leL hlen rfl) (congrArg (·+1) w.W.made) w.W.bk.top.symm rfl h₃ (Nat.le_of_ble_eq_true rfl) fun T₄ bk₄ c₄=>?_
 have q₄:OffP [2,3,5,11,12,13,14,21,23,27,29,30,32] T₂ T₄:=(OffP.no c₃).tr (.ks c₄)
 have hsp₄:=q₄.g (q₂.g hsp₁ rfl) rfl
 k_ownIn
 refine⟨lmL cl3,PutY.intro fun T₅ h₅ c₅=>?_⟩
 have q₅:OffP [1,2,3,5,11,12,13,14,21,23,24,25,26,27,29,30,31] T₄ T₅:=.one c₅ h₅
 have q₁₅:OffP [2,3,5,11,12,13,14,21,27,29,30] T₁ T₅:=q₂.sub.tr (q₄.sub.tr q₅.sub)
 let t:Th:=⟨s.hf.made+1,13,[⟨7,0,x⟩],0,endOf s.ts,tid,sid,pid⟩
 have cc:Chg (setX ct) T T₅:=c₅.back (c₄.back (c₃.back (c₂.back (c₁.weaken fun i k q=>q.elim (fun q=>.inl (ks_in (by decide) i k q)) fun q=>.inr (.inl (ht2▸q))) fun i k o h q=>.inl (by rw [show i=s.i.tx from q] at h;rw [same_kind h txd];exact (by decide:K.tx∈([.hp,.tl,.at_,.w,.ag,.wh,.wt,.inn,.tx]:List K)))) side_no) (side_in fun i k q=>.inl (ks_in (by decide) i k q))) (side_in fun _ _ q=>.inr (.inr q))
 have hser:t.ser=s.f.made+1:=congrArg (·+1) w.W.made
 have hok7:Spec.Ok ⟨7,0,x⟩ s.ts:=⟨Nat.le_of_ble_eq_true rfl,hx,fun h=>absurd (show 0<0 from h) (Nat.lt_irrefl 0),fun h=>(nomatch (show 7=1 from h))⟩
 have W₅:=w.W.more' (t:=t) ((HB.pid pid hb₁).offP q₁₅.sub) (bk₄.off q₅.sub) (q₁.sub.tr q₁₅.sub) rfl rfl hser rfl (one_mem hok7) (one_mem fun v hv=>absurd (show 0<0 from (tgt_mem hv).2.1) (Nat.lt_irrefl 0)) (Nat.le_of_ble_eq_true rfl) hnt hns (q₁₅.g hsl rfl)
 have g2:Grow s.ts (s.ts++[t]):=.snoc _ _
 have hok:Spec.Ok ⟨0,s.f.made+1,0⟩ (s.ts++[t]):=⟨Nat.zero_le _,Nat.zero_le _,fun _=>⟨Nat.zero_lt_succ 3,t,List.mem_append_right _ (.head _),hser,fun h=>nomatch h⟩,fun h=>(nomatch (show 0=1 from h))⟩
 have hv:Spec.val (whOf (s.ts++[t])) ⟨0,s.f.made+1,0⟩=refV (endOf s.ts):=by
  unfold Spec.val
  show refV (if 0<s.f.made+1 then whOf (s.ts++[t]) (s.f.made+1) else 0)=_
  rw [if_pos (Nat.succ_pos _),←hser,whOf_new fun u hu e=>Nat.lt_irrefl _ (hser▸e▸w.W.bk.made u hu:s.f.made+1≤s.f.made)]
 have w₅:=w.setf (tx':=s.tx++[x]) (specs:=ct.specs++[⟨0,s.f.made+1,0⟩]) (m:=1) hk W₅ ⟨rfl,rfl,Nat.le_refl _,Nat.le_succ _⟩ (Nat.le_of_ble_eq_true rfl) g2 hc0 cc (q₅.g (q₄.g h₂ rfl) rfl) (q₁₅.g inn₁ rfl) ⟨nd_snoc w.txn.1 hm,one_snoc w.txn.2 hx⟩ (by
   rw [List.map_append,List.map_congr_left fun a ha=>val_append (w.C.ok ct hcm a ha),ht2,List.map_singleton,hv]
   exact q₁₅.g iv₁ rfl) (by rw [List.map_append];exact h₅) (one_snoc (fun a ha=>g2.ok a (w.C.ok ct hcm a ha)) hok) (Nat.le_trans (Nat.le_of_eq len1) (Nat.le_trans (Nat.succ_le_succ cl3) (Nat.le_of_ble_eq_true rfl)))
 have tg':=tg.setc (tx':=s.tx++[x]) (specs:=ct.specs++[⟨0,s.f.made+1,0⟩]) (ltL b.cnt rfl) (ltL b.he rfl) hc0 (fun _=>len1▸Nat.succ_pos _) (fun _=>len1.trans ((congrArg (·+1) ht3).trans len1.symm)) fun h=>absurd rfl h
 have h₂':=q₅.g (q₄.g h₂ rfl) rfl
 have hw₅:=W₅.bk.w
 have hat:=List.getElem?_concat_length (l:=ct.specs.map Spec.v) (a:=Spec.v ⟨0,s.f.made+1,0⟩)
 rw [List.length_map,ht3] at hat
 have sv:=(w₅.seg tg' hp)
 have wh₅:=W₅.bk.wh
 clear W₅ w₅ tg' cc bk₄ hb₁ q₁ q₂ q₄ q₅ q₁₅ c₁ c₂ c₃ c₄ c₅ cR
 k_ownIn
 refine IdxY.di h₂' (v:=.int s.tx.length) (e.1▸dget_new (txD_ne hm)) ?_
 k_ownIn
 refine IdxY.list h₅ (at_nat hat (ltL txl rfl)) ?_
 k_ownIn
 refine sp_value (s:=⟨0,s.f.made+1,0⟩) hw₅ wh₅ hok ?_
 refine dok_eq hv ?_
 k_ownIn
 exact q T₅ sv
theorem Seg.text (h:Seg k T w m scr mi ex st) (hk:k+1≤180) (hx:x≤2) (q:∀ T',Seg (k+1) T' w m scr mi ex st→Q (.bool true) T'):CallY (CN (n+10)) 81 [.obj w,.int (x:Nat)] T Q:=by
 revert q
 refine h.on fun s w tg hp q=>?_
 exact (Decidable.em (x∈s.tx)).elim (fun hm=>tx_old w tg hx hm (q T ((w.up 1 hk).seg tg hp))) fun hm=>tx_new w tg hp hk hx hm q
end
set_option genInjectivity false
theorem rootsL_perm {mi:MId} {g:MG} {a b:Nat} (h:g.statics=[(17,b),(16,a)]):(rootsL mi g a b).Perm (rootsW mi g):=by
 unfold rootsL rootsW
 rw [h]
 simp only [List.append_assoc]
 exact List.Perm.append_left _ (List.Perm.swap ..)
section
variable {n k z w m scr a b:Nat} {mi:MId} {ex:List Nat} {st:List (Int×Nat)} {T:TH} {Q:V→TH→Prop}
theorem Seg.gone {gen:Nat} (h:Seg k T w m scr mi ex [(17,b),(16,a)]) (hk:k≤166) (hx:ex.length≤1) (hg:gen≤2) (q:∀ T',Seg k T' w m scr mi ex [(17,b),(16,a)]→Q (.bool true) T'):CallY (CN (n+11)) 85 [.obj w,.int (gen:Nat)] T Q:=by
 generalize hst:[((17:Int),b),(16,a)]=st at h q
 revert q hst hx
 refine h.on fun s w tg hp hx hst q=>?_
 obtain⟨hd,M,H⟩:=w.M
 have p:=w.perm
 rw [hp,List.append_nil] at p
 refine sp_gone w.W w.C M H ⟨(rootsL_perm hst.symm).trans p,w.exs,w.nd,w.rdy,hst.symm,leL w.bd.cel rfl,hx⟩ (leL w.bd.cel rfl) (Nat.le_trans (good_len w.W) (Nat.le_trans w.N.made (Nat.le_trans (Nat.mul_le_mul_left 30 hk) (Nat.le_of_ble_eq_true rfl)))) hg fun i' f' h' hf' ts' hdo hr' T' W' C' M' H' R' g1 g2 e1 e2 c=>?_
 obtain⟨ag,wh,rfl⟩:=e1
 obtain⟨top,rfl⟩:=e2
 have q₁:OffP [4,6,7,8,9,10,16,17,18,19,20,21,22,23,28,33] T T':=.ks c
 obtain⟨hd₀,A,_⟩:=w.H.P
 exact q T' (.mk {s with i:={s.i with ag:=ag,wh:=wh},f:={s.f with top:=top},h:=h',hf:=hf',ts:=ts'} ⟨W',C',⟨⟨.obj hdo,List.forall_mem_cons.mpr ⟨M'.m,AllK.off (fun x hx=>A x (.tail _ hx)) q₁ rfl⟩,⟨.inr ⟨hdo,hr',rfl,H'⟩⟩⟩,fun f hf=>q₁.g (w.H.fr f hf) rfl,fun f hf=>q₁.g (w.H.ch f hf) rfl,w.H.kt.off q₁⟩,R'.exs,w.perm,w.nd,R'.rdy,w.nsl,w.txn,w.fks,w.N,w.kl⟩ tg hp)
theorem Seg.dtext (h:Seg k T w m scr mi ex st) (hk:k+1≤180) (hz:z%8=7) (hz2:z/8%3=0) (q:∀ T',Seg (k+1) T' w m scr mi ex st→Q (.bool true) T'):CallY (CN (n+11)) 86 [.obj w,.int (z:Nat)] T Q:=by
 revert q
 refine h.on fun s w tg hp q=>deed_go w.W.bk.w hz ?_
 repeat first|(apply BinY.modE rfl rfl hz2)|o_fieldsN|k_caught0
 refine (w.seg tg hp).text hk (Nat.le_of_lt_succ (Nat.mod_lt _ (Nat.zero_lt_succ 2))) fun T' g=>?_
 k_ownIn
 exact q T' g
theorem mod8:∀ a:Nat,a<8→a=0∨a=1∨a=2∨a=3∨a=4∨a=5∨a=6∨a=7:=by decide
theorem mod3:∀ a:Nat,a<3→a=0∨a=1∨a=2:=by decide
theorem Seg.deed (h:Seg k T w m scr mi ex st) (hk:k+10≤180) (hs:2≤st.length) (hx:ex.length≤1) (q:∀ T',Seg (k+10) T' w m scr mi ex st→Q (.bool true) T'):CallY (CN (n+11)) 86 [.obj w,.int (z:Nat)] T Q:=by
 have up:∀ {d:Nat} T',Nat.ble d 10=true→Seg (k+d) T' w m scr mi ex st→Q (.bool true) T':=fun T' hd g=>q T' (g.le (Nat.add_le_add_left (Nat.le_of_ble_eq_true hd) k) hk)
 have le:∀ {d:Nat},Nat.ble d 10=true→k+d≤180:=fun hd=>Nat.le_trans (Nat.add_le_add_left (Nat.le_of_ble_eq_true hd) k) hk
 rcases mod8 (z%8) (Nat.mod_lt _ (Nat.zero_lt_succ 7)) with e|e|e|e|e|e|e|e
 ·exact h.dchase e (.inl rfl) fun T'=>up (d:=0) T' rfl
 ·exact h.dchase e (.inr rfl) fun T'=>up (d:=0) T' rfl
 ·exact h.dfly (le rfl) e fun T'=>up T' rfl
 ·exact h.dframe e fun T'=>up (d:=0) T' rfl
 ·exact h.dstand (le rfl) e fun T'=>up T' rfl
 ·exact h.dset (le rfl) e (.inl rfl) hs hx fun T'=>up T' rfl
 ·exact h.dset (le rfl) e (.inr rfl) hs hx fun T'=>up T' rfl
 ·rcases mod3 (z/8%3) (Nat.mod_lt _ (Nat.zero_lt_succ 2)) with g|g|g
  ·exact h.dtext (le rfl) e g fun T'=>up T' rfl
  ·exact h.dfail (le rfl) e g fun T'=>up T' rfl
  ·exact h.dheld e g fun T'=>up (d:=0) T' rfl
end
set_option genInjectivity false
theorem dget_miss {α:Type} [DecidableEq α] {l:List (α×V)} {k:α} (h:∀ p∈l,p.1≠k):dget l k=none:=by
 induction l with
 | nil=>rfl
 | cons p r ih =>
  unfold dget
  rw [if_neg (h p (.head _))]
  exact ih fun q hq=>h q (.tail _ hq)
structure KTi (kt:Nat) (T0:TH) (j:Nat) (p:KTp) (T:TH):Prop where
 F:FL (p.F kt) T
 L:p.Len j
 n:∀ x∈[p.ro,p.ix,p.de,p.we,p.op],T0[x]?=none
 g:∀ q∈p.il,q.1.2.2=false∧q.1.2.1<(j:Int)
 c:Chg (oneX kt) T0 T
set_option maxHeartbeats 4000000 in
theorem sp_KT {n kt:Nat} {T:TH} {Q:V→TH→Prop} (h0:T[kt]?=some (.kt,.inst 2 [])) (k:∀ T',KTL kt 16 64 T'→Chg (oneX kt) T T'→Q .none T'):CallY (CN (n+1)) 9 [.obj kt] T Q:=by
 refine call_fn (fd:=fd_KindTable_init) (by rfl) (by rfl) ?_
 refine (?_:SV _ [some (.obj kt),none,none] _ _ _)
 have I:ShI .kt 2 kt T [] [] T:=⟨h0,fun _ h=>(nomatch h),.refl _ _,.nil⟩
 refine sh_all 0 [.new .ktl .list,.new .ktl .dt,.new .ktl .list,.new .ktl .list,.new .ktl .list] I rfl rfl rfl fun js T₀ I=>?_
 have hn:∀ x∈(fldN js [.new .ktl .list,.new .ktl .dt,.new .ktl .list,.new .ktl .list,.new .ktl .list] []).map (·.1),T[x]?=none:=fun x hx=>(List.mem_map.mp hx).elim fun y h=>h.2▸(I.all y h.1).2.1
 have nd:=(List.reverse_perm _).nodup_iff.mpr I.nd
 have i0:KTi kt T 0 ⟨_,_,_,_,_,[],[],[],[],[]⟩ T₀:=⟨⟨List.forall_mem_cons.mpr ⟨I.me,List.forall_mem_cons.mpr ⟨I.g 4,List.forall_mem_cons.mpr ⟨I.g 3,List.forall_mem_cons.mpr ⟨I.g 2,List.forall_mem_cons.mpr ⟨I.g 1,List.forall_mem_cons.mpr ⟨I.g 0,fun _ h=>(nomatch h)⟩⟩⟩⟩⟩⟩,List.nodup_cons.mpr ⟨fun h=>some_ne (h0.symm.trans (hn _ (List.mem_reverse.mp h))),nd⟩⟩,⟨rfl,rfl,rfl,rfl,rfl⟩,fun x h=>hn x (List.mem_reverse.mp h),fun _ h=>(nomatch h),I.chg⟩
 clear I hn nd
 refine RangeY.gh (G:=Option V×Option V×KTp) (fun x=>[some (.obj kt),x.1,x.2.1]) (fun j x T'=>KTi kt T j x.2.2 T') (n:=16) (Nat.le_of_ble_eq_true rfl) (none,none,_) i0 (fun Q' j x S hj i next ret=>?_) fun x S i=>?_
 ·obtain⟨x,y,p⟩:=x
  obtain⟨F,L,nn,hg,cS⟩:=i
  have miss:∀ q∈p.il,q.1≠((1:Int),(j:Int),false):=fun q hq e=>Int.lt_irrefl (j:Int) (by have:=(hg q hq).2;rw [e] at this;exact this)
  have hj':=Nat.le_of_lt hj
  have kt₀:=F.g 0
  have ro₀:=F.g 1
  refine (?_:SV _ [some (.obj kt),some (.int (j:Nat)),y] _ _ _)
  k_ownIn
  refine⟨lim_of L.r hj',PutY.intro fun T₁ g1 c₁=>?_⟩
  have F₁:=F.put 1 rfl c₁ g1
  have kt₁:=F₁.g 0
  k_ownIn
  refine IdxPut.dt ((1:Int),(j:Int),false) (F₁.g 2) (lim_of L.i hj') (PutY.intro fun T₂ g2 c₂=>?_)
  rw [dput_new miss] at g2
  have F₂:=F₁.put 2 rfl c₂ g2
  have kt₂:=F₂.g 0
  have de₂:=F₂.g 3
  k_ownIn
  refine⟨lim_of L.d hj',PutY.intro fun T₃ g3 c₃=>?_⟩
  have F₃:=F₂.put 3 rfl c₃ g3
  have kt₃:=F₃.g 0
  have we₃:=F₃.g 4
  k_ownIn
  refine⟨lim_of L.w hj',PutY.intro fun T₄ g4 c₄=>?_⟩
  have F₄:=F₃.put 4 rfl c₄ g4
  have kt₄:=F₄.g 0
  have op₄:=F₄.g 5
  k_ownIn
  refine⟨lim_of L.o hj',PutY.intro fun T₅ g5 c₅=>?_⟩
  have F₅:=F₄.put 5 rfl c₅ g5
  have si:∀ {x:Nat},x∈[p.ro,p.ix,p.de,p.we,p.op]→∀ (i:Nat) (k:K) (o:O),T[i]?=some (k,o)→oneX x i k→oneX kt i k:=fun h=>side_fresh (nn _ h)
  exact next (_,_,p.add ((1:Int),(j:Int),false) _ _ _ _ _) T₅ ⟨F₅,L.add,nn,one_snoc (fun q hq=>⟨(hg q hq).1,Int.lt_trans (hg q hq).2 (Int.lt_succ _)⟩) ⟨rfl,Int.lt_succ _⟩,
   c₅.back (c₄.back (c₃.back (c₂.back (c₁.back cS (si (.head _))) (si (.tail _ (.head _)))) (si (.tail _ (.tail _ (.head _))))) (si (.tail _ (.tail _ (.tail _ (.head _)))))) (si (.tail _ (.tail _ (.tail _ (.tail _ (.head _))))))⟩
 ·exact k S ⟨⟨x.2.2,i.F,i.L,fun sx x' _=>dget_miss fun q hq e=>by have:=(i.g q hq).1;rw [e] at this;cases this⟩⟩ i.c
set_option genInjectivity false
theorem sp_Heap {n hp:Nat} {T:TH} {Q:V→TH→Prop} (h0:T[hp]?=some (.hp,.inst 1 [])) (k:∀ (h:Hid) f T',h.hp=hp→f.made=0→HB h [] f T'→T[h.rdy]?=none→Chg (oneX hp) T T'→Q .none T'):CallY (CN (n+1)) 2 [.obj hp,.int 100000,.int 3] T Q:=by
 refine call_fn (fd:=fd_Heap_init) (by rfl) (by rfl) ?_
 refine (?_:SV _ [some (.obj hp),some (.int 100000),some (.int 3)] _ _ _)
 have I:ShI .hp 1 hp T [] [] T:=⟨h0,fun _ h=>(nomatch h),.refl _ _,.nil⟩
 refine sh_all 0 [.new .tl .list,.new .at_ .di] I rfl rfl rfl fun js T₂ I=>?_
 refine sh_val (v:=.int 16) I id rfl rfl fun T₃ I=>?_
 refine sh_all 3 [.val (.int 100000),.new .cd .di,.val (.int 3),.val (.int 0)] I rfl rfl rfl fun js₂ T₇ I=>?_
 refine sh_val (v:=.int 25001) I (fun q=>by k_ownIn;exact q) rfl rfl fun T₈ I=>?_
 refine sh_all 8 [.new .fin .list,.new .real .list,.val (.int 0),.val (.int 0)] I rfl rfl rfl fun js₃ T₁₂ I=>?_
 exact k ⟨hp,_,_,_,_,_⟩ ⟨100000,0,25001,0,0⟩ T₁₂ rfl rfl ⟨I.me,I.g 4,I.g 3,I.g 2,I.g 1,I.g 0,fun _ h=>(nomatch h)⟩ (I.n 0) I.chg
theorem ShI.aside {km:K} {c m p:Nat} {T0 T T₂:TH} {fs:List V} {L:List (Nat×K×O)} (I:ShI km c m T0 fs L T) (hn:T[p]?=none) (cc:Chg (oneX p) T T₂):ShI km c m T0 fs L T₂ :=
 ⟨cc.other I.me (ne_none I.me hn),fun x hx=>⟨cc.other (I.all x hx).1 (ne_none (I.all x hx).1 hn),(I.all x hx).2⟩,cc.back I.chg (side_fresh (none_back hn (I.chg.weaken fun _ _ _=>trivial))),I.nd⟩
theorem sp_Store {n st:Nat} {T:TH} {Q:V→TH→Prop} (h0:T[st]?=some (.oth,.inst 12 [])) (k:∀ kt fs T',T[kt]?=none→T'[st]?=some (.oth,.inst 12 (.obj kt::fs))→KTL kt 16 64 T'→Chg (oneX st) T T'→Q .none T'):CallY (CN (n+2)) 68 [.obj st] T Q:=by
 refine call_fn (fd:=fd_Store_init) (by rfl) (by rfl) ?_
 refine (?_:SV _ [some (.obj st)] _ _ _)
 refine AnyK.mk .kt (NewY.intro fun kt T₁ hn₁ h₁ c₁=>?_)
 refine sp_KT h₁ fun T₂ K₂ c₂=>⟨rfl,?_⟩
 have st₂:=c₂.other (c₁.keep h0) (ne_none h0 hn₁)
 have cc₂:Chg (oneX st) T T₂:=c₂.back (c₁.weaken fun _ _ q=>q.elim) (side_fresh hn₁)
 have I:ShI .oth 12 st T₂ [] [] T₂:=⟨st₂,fun _ h=>(nomatch h),.refl _ _,.nil⟩
 refine I.put rfl fun T I=>?_
 refine sh_all 1 [.new .g .none1,.new .g .none1,.new .g .none1,.new .g .di,.new .g .list,.val (.int 0)] I rfl rfl rfl fun js T I=>?_
 have cK:Chg (ksX [.oth]) T₂ T:=I.chg.back (.refl _ _) (side_kind st₂ (by decide))
 exact k kt _ T hn₁ I.me (K₂.off (OffP.ks (p:=[4,33]) cK)) (I.chg.back cc₂ side_same)
theorem sp_Place {n p:Nat} {a b c:V} {T:TH} {Q:V→TH→Prop} (h0:T[p]?=some (.oth,.inst 5 [])) (k:∀ T',Chg (oneX p) T T'→Q .none T'):CallY (CN (n+1)) 56 [.obj p,a,b,c] T Q:=by
 refine call_fn (fd:=fd_PlaceHost_init) (by rfl) (by rfl) ?_
 refine (?_:SV _ [some (.obj p),some a,some b,some c] _ _ _)
 have I:ShI .oth 5 p T [] [] T:=⟨h0,fun _ h=>(nomatch h),.refl _ _,.nil⟩
 refine sh_all 0 [.loc 1,.loc 2,.loc 3] I rfl rfl rfl fun js T I=>?_
 exact k T I.chg
set_option maxHeartbeats 4000000 in
theorem sp_Shelf {n m st kt hp:Nat} {fs0:List V} {T0:TH} {Q:V→TH→Prop} (h0:T0[m]?=some (.m,.inst 10 [])) (hst:T0[st]?=some (.oth,.inst 12 (.obj kt::fs0)))
  (k:∀ (mi:MId) T',mi.kt=kt→MW m mi hp .none ⟨[],[],[],[],[]⟩ T'→T'[mi.inn]?=some (.inn,.ds [])→T'[mi.iv]?=some (.real,.list [])→T'[mi.un]?=some (.real,.list [])→T'[mi.sw]?=some (.oth,.inst 8 [])→T0[mi.iv]?=none→T0[mi.un]?=none→mi.iv≠mi.un→Chg (oneX m) T0 T'→Q .none T'):CallY (CN (n+2)) 59 [.obj m,.obj st,.obj hp] T0 Q:=by
 refine call_fn (fd:=fd_Shelf_init) (by rfl) (by rfl) ?_
 refine (?_:SV _ [some (.obj m),some (.obj st),some (.obj hp)] _ _ _)
 have I:ShI .m 10 m T0 [] [] T0:=⟨h0,fun _ h=>(nomatch h),.refl _ _,.nil⟩
 refine sh_val (v:=.obj st) I id rfl rfl fun T I=>?_
 have hs:=I.chg.otherK hst I.me (by decide)
 refine sh_val (v:=.obj kt) I (fun q=>by k_ownIn;exact q) rfl rfl fun T I=>?_
 refine sh_val (v:=.obj hp) I id rfl rfl fun T I=>?_
 refine sh_all 3 [.new .oth .dt,.new .oth .di,.new .oth .di,.new .oth .di,.new .oth .di,.new .oth .di,.new .frs .list,.new .oth .di,.new .sts .di,.new .oth .di,.new .fas .di,.new .oth .di,.new .oth .di,.val (.int 0),.new .oth .list,.new .oth .list,
  .new .oth .list,.new .oth .list,.new .chs .list,.new .inn .ds,.new .real .list,.new .hes .list,.val .none,.val .none,.new .real .list,.val .none] I rfl rfl rfl fun js T I=>?_
 have me:=I.me
 refine AnyK.mk .oth ?_
 k_ownIn
 rename_i plc T₁ hn₁ h₁ c₁
 refine sp_Place h₁ fun T₂ c₂=>⟨rfl,?_⟩
 have I:=I.aside hn₁ (c₂.back (c₁.weaken fun _ _ q=>q.elim) side_same)
 refine I.put rfl fun T I=>?_
 refine sh_all 30 [.new .oth (.new0 7),.new .oth (.new0 9),.new .oth (.new0 8)] I rfl rfl rfl fun js' T I=>?_
 have nd:=(List.pairwise_iff_getElem.mp I.nd) 3 5 (Nat.le_of_ble_eq_true rfl) (Nat.le_of_ble_eq_true rfl) (by decide)
 exact k ⟨kt,_,_,_,_,_,_,_,_,_,.obj st,(_,_,_,_,_,_),_,_,(_,_,.int 0,_,_,_,_),(.none,.none),(.obj plc,_,_)⟩ T rfl ⟨I.me,I.g 18,fun _ h=>(nomatch h),I.g 7,fun _ h=>(nomatch h),I.g 16,I.g 14,I.g 4,.nil,⟨Nat.zero_le _,Nat.zero_le _,Nat.zero_le _,Nat.zero_le _⟩⟩ (I.g 6) (I.g 5) (I.g 3) (I.g 0) (I.n 5) (I.n 3) (Ne.symm nd) I.chg
set_option genInjectivity false
set_option maxHeartbeats 4000000 in
theorem law_start {n:Nat} {ns:List Int} {T:TH} {Q:PS'} (hl:ns.length≤63)
  (k:∀ (i:WId) (mi:MId) st T,Seg 2 T i.w i.m i.scr mi [mi.un] []→SV (CN (n+6)) [some (.obj i.scr),some (.obj st),some (.obj i.m),some (.obj i.w),none,none,none] (fd_law.body.drop 8) T Q) :
  SV (CN (n+6)) [some (.frz ns),none,none,none,none,none,none] fd_law.body T Q:=by
 k_ownIn
 refine And.intro (leL hl rfl) (AnyK.mk .scr (NewY.intro fun scr T₁ _ h₁ _=>?_))
 k_ownIn
 refine AnyK.mk .oth ?_
 k_ownIn
 rename_i st T₂ hn₂ h₂ c₂
 refine sp_Store h₂ fun kt fs T₃ hkt st₃ K₃ c₃=>⟨rfl,?_⟩
 k_ownIn
 refine AnyK.mk .m ?_
 k_ownIn
 refine AnyK.mk .hp ?_
 k_ownIn
 rename_i hp T₄ hn₄ h₄ c₄
 refine sp_Heap h₄ fun h hf T₅ ehp emade hb₅ nrdy c₅=>⟨rfl,?_⟩
 subst ehp
 k_ownIn
 rename_i m T₆ hn₆ h₆ c₆
 have q₅:OffP [4,9,10,33] T₃ T₆:=(OffP.no c₄).tr ((OffP.one c₅ hb₅.hp).tr (.no c₆))
 refine sp_Shelf h₆ (q₅.g st₃ rfl) fun mi T₇ ekt M₇ inn₇ iv₇ un₇ sw₇ niv nun nd c₇=>⟨rfl,?_⟩
 have q₇:OffP [3,4,5,9,10,11,12,13,14,29,33] T₆ T₇:=.one c₇ M₇.m
 have mm₇:=M₇.m
 k_ownIn
 refine AnyK.mk .w (NewY.intro fun wb T₈ hn₈ h₈ c₈=>?_)
 have mm₈:=c₈.keep mm₇
 k_ownIn
 refine AnyK.mk .wt ?_
 k_ownIn
 rename_i wt T₉ hn₉ h₉ c₉
 refine AnyK.mk .ag ?_
 k_ownIn
 rename_i ag T₁₀ hn₁₀ h₁₀ c₁₀
 refine AnyK.mk .wh ?_
 k_ownIn
 rename_i wh T₁₁ hn₁₁ h₁₁ c₁₁
 refine AnyK.mk .fl ?_
 k_ownIn
 rename_i fl T₁₂ hn₁₂ h₁₂ c₁₂
 refine AnyK.mk .tx ?_
 k_ownIn
 rename_i tx T₁₃ hn₁₃ h₁₃ c₁₃
 refine AnyK.mk .ce ?_
 k_ownIn
 refine AnyK.mk .cspec ?_
 k_ownIn
 rename_i pid T₁₄ hn₁₄ h₁₄ c₁₄ ce T₁₅ hn₁₅ h₁₅ c₁₅
 have k13:=c₁₄.tr c₁₅
 have k12:=c₁₃.tr k13
 have k11:=c₁₂.tr k12
 have k10:=c₁₁.tr k11
 have k9:=c₁₀.tr k10
 have k8:=c₉.tr k9
 refine⟨k8.keep h₈,PutY.intro fun Ta ha ca=>?_⟩
 have qw:OffP [2,3,4,5,9,10,11,12,13,14,16,17,18,19,20,21,22,23,24,25,26,27,29,32,33] T₁₅ Ta:=.one ca ha
 have qa:OffP [2,3,4,5,9,10,11,12,13,14,16,17,18,19,20,21,22,23,24,25,26,27,29,32,33] T₇ Ta:=(OffP.no (c₈.tr k8)).tr qw
 have q₁:OffP [10] T₁ T₃:=(OffP.no c₂).tr (.one c₃ st₃)
 have rdy₆:=c₆.keep hb₅.rdy
 have A:AllK [(mi.sw,.oth,.inst 8 []),(scr,.scr,.list ((ns.take 16).map .int)),(fl,.fl,.list []),(tx,.tx,.di []),(mi.inn,.inn,.ds []),(wt,.wt,.di []),(ag,.ag,.di []),(wh,.wh,.di []),(mi.iv,.real,.list []),(mi.un,.real,.list []),(pid,.cspec,.list []),(ce,.ce,.list [.tup [.str (Str.ofString "texts"),.obj mi.iv,.obj pid]]),(st,.oth,.inst 12 (.obj kt::fs)),(m,.m,mi.obj h.hp .none),
   (mi.frs,.frs,.list []),(mi.chs,.chs,.list []),(mi.sts,.sts,.di []),(mi.fas,.fas,.di []),(mi.hes,.hes,.list [])] Ta :=
  .cons (qa.g sw₇ rfl) (.cons (qa.g (q₇.g (q₅.g (q₁.g h₁ rfl) rfl) rfl) rfl) (.cons (qw.g (k12.keep h₁₂) rfl) (.cons (qw.g (k13.keep h₁₃) rfl) (.cons (qa.g inn₇ rfl) (.cons (qw.g (k9.keep h₉) rfl) (.cons (qw.g (k10.keep h₁₀) rfl) (.cons (qw.g (k11.keep h₁₁) rfl) (.cons (qa.g iv₇ rfl) (.cons (qa.g un₇ rfl) (.cons (qw.g (c₁₅.keep h₁₄) rfl) (.cons (qw.g h₁₅ rfl) (.cons (qa.g (q₇.g (q₅.g st₃ rfl) rfl) rfl) (.cons (qa.g mm₇ rfl)
   (.cons (qa.g M₇.frs rfl) (.cons (qa.g M₇.chs rfl) (.cons (qa.g M₇.sts rfl) (.cons (qa.g M₇.fas rfl) (.cons (qa.g M₇.hes rfl) .nil))))))))))))))))))
 have hba:=(hb₅.offP (OffP.no c₆)).offP (q₇.sub.tr qa.sub)
 have Ka:=K₃.off (q₅.sub.tr (q₇.sub.tr (OffP.sub (p':=[4,33]) qa)))
 have dri:h.rdy≠mi.iv:=ne_none rdy₆ niv
 have dru:h.rdy≠mi.un:=ne_none rdy₆ nun
 have sta:=A.g 12
 clear qw qa q₁ q₅ q₇ k8 k9 k10 k11 k12 k13 c₂ c₃ c₄ c₅ c₆ c₇ c₈ c₉ c₁₀ c₁₁ c₁₂ c₁₃ c₁₄ c₁₅ h₁ h₂ h₄ h₆ h₈ h₉ h₁₀ h₁₁ h₁₂ h₁₃ h₁₄ h₁₅ st₃ K₃ hb₅ M₇ mm₇ mm₈ inn₇ iv₇ un₇ sw₇ rdy₆ niv nun nrdy hkt ca hn₂ hn₄ hn₆ hn₈ hn₉ hn₁₀ hn₁₁ hn₁₂ hn₁₃ hn₁₄ hn₁₅
 k_ownIn
 refine sp_class (x:=64) (by decide) (by decide) (by decide) Ka fun Tb Kb cb=>?_
 have qb:OffP [1,2,3,4,5,9,10,11,12,13,14,16,17,18,19,20,21,22,23,24,25,26,27,29,32] Ta Tb:=.ks cb
 have stb:=qb.g sta rfl
 k_ownIn
 refine sp_class (x:=65) (by decide) (by decide) (by decide) Kb fun Tc Kc cc=>?_
 have qc:OffP [1,2,3,4,5,9,10,11,12,13,14,16,17,18,19,20,21,22,23,24,25,26,27,29,32] Ta Tc:=qb.tr (.ks cc)
 have stc:=qc.g sta rfl
 have hc:=qc.g ha rfl
 k_ownIn
 rename_i Td hd cd
 have qd:OffP [2,3,4,5,9,10,11,12,13,14,16,17,18,19,20,21,22,23,24,25,26,27,29,32,33] Tc Td:=.one cd hd
 have std:=qd.g stc rfl
 refine sp_valk (x:=66) (by decide) (by decide) (by decide) (Kc.off qd) fun Te Ke c5=>?_
 have qe:OffP [1,2,3,4,5,9,10,11,12,13,14,16,17,18,19,20,21,22,23,24,25,26,27,29,32] Td Te:=.ks c5
 have ste:=qe.g std rfl
 have he:=qe.g hd rfl
 k_ownIn
 rename_i Tf hf' c6
 have qf:OffP [2,3,4,5,9,10,11,12,13,14,16,17,18,19,20,21,22,23,24,25,26,27,29,32,33] Te Tf:=.one c6 hf'
 have stf:=qf.g ste rfl
 refine sp_valk (x:=67) (by decide) (by decide) (by decide) (Ke.off qf) fun Tg' Kg c7=>?_
 have qg:OffP [1,2,3,4,5,9,10,11,12,13,14,16,17,18,19,20,21,22,23,24,25,26,27,29,32] Tf Tg':=.ks c7
 have hg:=qg.g hf' rfl
 k_ownIn
 rename_i Th' hh c8
 have qh:OffP [2,3,4,5,9,10,11,12,13,14,16,17,18,19,20,21,22,23,24,25,26,27,29,32,33] Tg' Th':=.one c8 hh
 have Kh:=(Kg.off qh).mono (x1:=70) (Nat.le_of_ble_eq_true rfl)
 have qz:OffP [2,3,4,5,9,10,11,12,13,14,16,17,18,19,20,21,22,23,24,25,26,27,29,32] Ta Th':=qc.sub.tr (qd.sub.tr (qe.sub.tr (qf.sub.tr (qg.sub.tr qh.sub))))
 have A:=A.off qz rfl
 have hb:=hba.offP qz.sub
 clear qb qc qd qe qf qg qh qz cb cc cd c5 c6 c7 c8 stb stc std ste stf sta hc hd he hf' hg Kb Kc Ke Kg Ka hba
 have mm:=A.g 13
 have C:CL ⟨wb,scr,m,wt,ag,wh,fl,tx,ce⟩ [] [⟨Tg.tx.s,[],mi.iv,pid⟩] Th':=⟨A.g 11,one_mem (A.g 8),one_mem (A.g 10),one_mem fun _ h=>(nomatch h),List.pairwise_singleton ..,List.pairwise_singleton ..,one_mem (Nat.zero_le _)⟩
 have tg:TgW 0 mi.iv ⟨[],[],[],[],[]⟩ [⟨Tg.tx.s,[],mi.iv,pid⟩] [] []:=by
  have rw0:∀ {t':Tg},t'.Ok→Tg.tx≠t'→rowsOf [(⟨Tg.tx.s,[],mi.iv,pid⟩:Ce)] t'=[]:=fun {t'} ok ne=>rowsX_snoc (cells:=[]) (tt:=.tx) trivial t' ok ne
  exact⟨rfl,fun _ h=>(nomatch h),.nil,fun _ _ _ h=>(nomatch h),fun _ h=>(nomatch h),.nil,fun j r h=>(nomatch h),fun m _ h=>⟨rw0 (t':=.ch m) h tne,rw0 (t':=.fr m) h tne⟩,fun m _ h=>rw0 (t':=.he m) h tne,⟨_,[],rfl,rfl,rfl,rfl⟩⟩
 have w:Mem 1 ⟨⟨wb,scr,m,wt,ag,wh,fl,tx,ce⟩,⟨0,0,16,0⟩,mi,⟨[],[],[],[],[]⟩,h,hf,[],[⟨Tg.tx.s,[],mi.iv,pid⟩],[mi.un],[],ns.take 16,[],[]⟩ Th' :=
  ⟨⟨hb,fun _ h=>(nomatch h),⟨trivial,.nil,.nil,fun _ h=>(nomatch h),fun _ h=>(nomatch h),fun _ h=>(nomatch h),fun _ h=>(nomatch h),fun _ h=>(nomatch h),.nil,.nil⟩,⟨hh,A.g 6,A.g 7,⟨[],A.g 5,fun _ h=>(nomatch h),Nat.le_refl _,fun _ h=>(nomatch h)⟩,fun _ h=>(nomatch h),rfl,fun _ h=>(nomatch h)⟩,emade,⟨_,mm,rfl⟩⟩,C,
   ⟨⟨.none,.cons mm (.cons (A.g 14) (.cons (A.g 15) (.cons (A.g 16) (.cons (A.g 17) (.cons (A.g 18) (.cons (A.g 0) (.cons (A.g 1) (.cons (A.g 2) (.cons (A.g 3) (.cons (A.g 4) .nil)))))))))),⟨.inl rfl⟩⟩,fun _ h=>(nomatch h),fun _ h=>(nomatch h),ekt▸Kh⟩,one_mem (A.g 9),.refl _,List.nodup_cons.mpr ⟨fun h=>nd (List.mem_singleton.mp h),List.pairwise_singleton ..⟩,fun h=>(List.mem_cons.mp h).elim dri fun h=>dru (List.mem_singleton.mp h),
   by rw [List.length_take];exact Nat.min_le_left _ _,⟨.nil,fun _ h=>(nomatch h)⟩,rfl,⟨Nat.zero_le _,Nat.zero_le _,Nat.zero_le _,by show 1≤8*1;decide,Nat.zero_le _,Nat.zero_le _,Nat.zero_le _,Nat.zero_le _⟩,by decide⟩
 refine (w.seg tg rfl).fresh (z:=0) (by decide) fun v T' g=>k ⟨wb,scr,m,wt,ag,wh,fl,tx,ce⟩ mi st T' g
set_option genInjectivity false
theorem Seg.scr {k w m scr:Nat} {mi:MId} {ex:List Nat} {st:List (Int×Nat)} {T:TH} (h:Seg k T w m scr mi ex st):∃ l:List V,T[scr]?=some (.scr,.list l)∧l.length≤16:=by
 exact h.on fun s w tg hp=>w.H.P.elim fun hd a=>⟨_,a.1.g 7,Nat.le_trans (Nat.le_of_eq (List.length_map ..)) w.nsl⟩
theorem turn_le {a d j n m b:Nat} (hj:j<n) (hn:n≤m) (h:Nat.ble (a+d*m) b=true:=by rfl):a+d*j+d≤b:=Nat.le_trans (Nat.le_of_eq (Nat.add_assoc ..)) (Nat.le_trans (Nat.add_le_add_left (Nat.mul_le_mul_left d (Nat.le_trans hj hn)) a) (Nat.le_of_ble_eq_true h))
theorem dnL {a d e b c:Nat} (h:a+d≤c) (h1:Nat.ble e d=true:=by rfl) (h2:Nat.ble c b=true:=by rfl):a+e≤b:=Nat.le_trans (Nat.add_le_add_left (Nat.le_of_ble_eq_true h1) a) (leL h h2)
theorem turns_le {a d n m b:Nat} (hn:n≤m) (h:Nat.ble (a+d*m) b=true:=by rfl):a+d*n≤b:=Nat.le_trans (Nat.add_le_add_left (Nat.mul_le_mul_left d hn) a) (Nat.le_of_ble_eq_true h)
theorem modL {z a c:Nat} (h:Nat.ble 1 c=true:=by rfl):a+z%c≤a+(c-1):=Nat.add_le_add_left (Nat.le_sub_one_of_lt (Nat.mod_lt _ (Nat.le_of_ble_eq_true h))) a
theorem divL {l a:Nat} (h:l≤16):a+l/6≤a+2:=Nat.add_le_add_left (Nat.div_le_div_right (c:=6) h) a
theorem limL {a b:Nat} (h:a≤b) (hb:Nat.ble b 1000=true:=by rfl):a≤limit:=Nat.le_trans h (Nat.le_trans (Nat.le_of_ble_eq_true hb) (Nat.le_of_ble_eq_true rfl))
set_option maxHeartbeats 8000000 in
theorem law_end {u scr w m st a b:Nat} {mi:MId} {ex:List Nat} {x:Option V} {T:TH} (sg:Seg 95 T w m scr mi ex [(17,b),(16,a)]) (hx:ex.length≤1):SV (CN 11) [some (.obj scr),some (.obj st),some (.obj m),some (.obj w),some (.int (u:Nat)),x,none] (fd_law.body.drop 15) T (fun r _=>r.1.getD .none=.bool true):=by
 k_ownIn
 have hn:1+u/3%3≤1+2:=modL
 refine RangeY.gh (G:=Option V) (fun y=>[some (.obj scr),some (.obj st),some (.obj m),some (.obj w),some (.int (u:Nat)),x,y]) (fun j _ T=>Seg (95+1*j) T w m scr mi ex [(17,b),(16,a)]) (limL hn) none sg ?_ ?_
 ·intro Q' j y T' hj sg qn qs
  have hj:j<1+u/3%3:=hj
  k_ownIn
  refine sg.text (leL (turn_le (b:=98) hj hn) rfl) (Nat.le_of_lt_succ (Nat.lt_of_lt_of_le hj hn)) fun T'' sg'=>?_
  k_ownIn
  exact qn _ _ sg'
 intro y T' sg
 have sg:Seg 98 T' w m scr mi ex [(17,b),(16,a)]:=sg.le (turns_le hn) (Nat.le_of_ble_eq_true rfl)
 obtain⟨l,hl,hll⟩:=sg.scr
 k_ownIn
 refine LenY.list hl (Nat.le_trans hll (Nat.le_of_ble_eq_true rfl)) ?_
 have hn:2+l.length/6≤2+2:=divL hll
 k_ownIn
 refine RangeY.gh (G:=Option V×Option V) (fun g=>[some (.obj scr),some (.obj st),some (.obj m),some (.obj w),g.1,g.2,y]) (fun j _ T=>Seg (98+12*j) T w m scr mi ex [(17,b),(16,a)]) (limL hn) (_,_) sg ?_ ?_
 ·intro Q' j g T' hj sg qn qs
  have hj:j<2+l.length/6:=hj
  have h12:98+12*j+12≤160:=turn_le hj hn
  k_ownIn
  refine sg.num (dnL (e:=1) h12) fun z T₁ sg=>?_
  k_ownIn
  refine sg.gone (gen:=z%3) (dnL (e:=1) h12) hx (Nat.le_of_lt_succ (Nat.mod_lt _ (Nat.zero_lt_succ 2))) fun T₂ sg=>?_
  k_ownIn
  refine sg.fresh (dnL (e:=2) h12) fun v T₃ sg=>?_
  k_ownIn
  refine sg.deed (dnL (e:=12) h12) (Nat.le_refl 2) hx fun T₄ sg=>?_
  k_ownIn
  exact qn (_,_) _ sg
 intro g T' sg
 k_ownIn
 refine sg.gone (gen:=2) (turns_le hn) hx (Nat.le_refl 2) fun T' _=>?_
 exact rfl
set_option maxHeartbeats 8000000 in
theorem law_rest {scr w m st:Nat} {mi:MId} {T:TH} (sg:Seg 2 T w m scr mi [mi.un] []):SV (CN 11) [some (.obj scr),some (.obj st),some (.obj m),some (.obj w),none,none,none] (fd_law.body.drop 8) T (fun r _=>r.1.getD .none=.bool true):=by
 k_ownIn
 refine sg.num (Nat.le_of_ble_eq_true rfl) fun z T₁ sg=>?_
 k_ownIn
 have hn:1+z%6≤1+5:=modL
 refine RangeY.gh (G:=Option V) (fun x=>[some (.obj scr),some (.obj st),some (.obj m),some (.obj w),some (.int (z:Nat)),x,none]) (fun j _ T=>Seg (3+5*j) T w m scr mi [mi.un] []) (limL hn) none sg ?_ ?_
 ·intro Q' j x T' hj sg qn qs
  k_ownIn
  refine sg.fly (turn_le hj hn) fun T'' sg'=>?_
  k_ownIn
  exact qn _ _ sg'
 intro x T' sg
 have sg:Seg 33 T' w m scr mi [mi.un] []:=sg.le (turns_le hn) (Nat.le_of_ble_eq_true rfl)
 clear hn
 k_ownIn
 refine sg.num (Nat.le_of_ble_eq_true rfl) fun y T₃ sg=>?_
 k_ownIn
 have hn:2+y%3≤2+2:=modL
 refine RangeY.gh (G:=Option V) (fun x=>[some (.obj scr),some (.obj st),some (.obj m),some (.obj w),some (.int (z:Nat)),x,none]) (fun j _ T=>Seg (34+10*j) T w m scr mi [mi.un] []) (limL hn) x sg ?_ ?_
 ·intro Q' j x T' hj sg qn qs
  have h10:34+10*j+10≤74:=turn_le hj hn
  k_ownIn
  refine sg.num (dnL (e:=1) h10) fun u T'' sg'=>?_
  k_ownIn
  refine sg'.stand (dnL (e:=10) h10) fun T'' sg'=>?_
  k_ownIn
  exact qn _ _ sg'
 intro x T' sg
 have sg:Seg 74 T' w m scr mi [mi.un] []:=sg.le (turns_le hn) (Nat.le_of_ble_eq_true rfl)
 clear hn
 k_ownIn
 refine sg.num (Nat.le_of_ble_eq_true rfl) fun z T₅ sg=>?_
 k_ownIn
 refine RangeY.unroll (n:=2) (by decide) ?_
 refine RV.step ?_
 refine sg.st (j:=0) (Nat.le_of_ble_eq_true rfl) (.inl ⟨rfl,rfl⟩) (Nat.zero_le _) (fun _ h=>(nomatch h)) fun b T₆ sg=>?_
 refine RV.step ?_
 refine sg.st (j:=1) (Nat.le_of_ble_eq_true rfl) (.inr ⟨rfl,rfl⟩) (Nat.le_refl 1) (one_mem (show (17:Int)≠16 from fun h=>nomatch h)) fun a T₇ sg=>?_
 k_ownIn
 have hn:1+z%2≤1+1:=modL
 refine RangeY.gh (G:=Option V) (fun x=>[some (.obj scr),some (.obj st),some (.obj m),some (.obj w),some (.int (z:Nat)),x,none]) (fun j _ T=>Seg (79+7*j) T w m scr mi [mi.un] [(17,b),(16,a)]) (limL hn) _ sg ?_ ?_
 ·intro Q' j x T' hj sg qn qs
  have h7:79+7*j+7≤93:=turn_le hj hn
  k_ownIn
  refine sg.fail (dnL (e:=3) h7) fun T'' sg'=>?_
  k_ownIn
  refine sg'.hold (dnL (e:=7) h7) fun T'' sg'=>?_
  k_ownIn
  exact qn _ _ sg'
 intro x T' sg
 have sg:Seg 93 T' w m scr mi [mi.un] [(17,b),(16,a)]:=sg.le (turns_le hn) (Nat.le_of_ble_eq_true rfl)
 exact sg.unh (Nat.le_of_ble_eq_true rfl) fun ex T' hex sg=>law_end sg hex
theorem plain (ns:List Int) (h:ns.length≤63):CN 12 87 [.frz ns] [] fun v _=>v=.bool true:=by
 refine (call_fn (n:=11) (fd:=fd_law) (by rfl) (by rfl) ?_).c
 exact law_start (n:=5) h fun i mi st T sg=>law_rest sg
end Mine
section
set_option maxHeartbeats 8000000
namespace Mine.Hd
open PySem PySem.W PySem.Calls PyProof.Rows
noncomputable def kz:Nat→List Obj→Frag
 | i,o::l=>(i,o)::kz (i+1) l
 | _,[]=>[]
noncomputable def K (P:Params):Frag:=kz 0 (L P)
noncomputable def live (o:Obj):Bool:=match o.data with|.freed=>false|_=>true
theorem live_all (P:Params):(L P).all live=true:=by kernel_rfl
theorem all_in (P:Params):allIn (K P)=true:=by kernel_rfl
theorem fns_in (P:Params):fnsIn (K P)=true:=by kernel_rfl
theorem left_ok:LeftO p0 lawView looseNames X0 (fun s=>s.heap.objs) (fun w=>(L w.params).toArray) 42000 :=
 LeftO.of_pieces (H₀:=boot_heap) (H₁:=H1) open_ok size_ok run_ok (by rfl) fun w=>funext fun os=>by
  rw [PySem.W.Fast.te5923862056798008813,PySem.W.Fast.te4187177175401517315]
  exact Prod.ext (congrFun (chk_tw w) os) (Prod.ext (congrFun (seen_tw w) os) rfl)
theorem kz_look {a:Nat} {o:Obj}:∀ {l:List Obj} {i:Nat},(kz i l).lookup a=some o→∃ j,a=i+j∧l[j]?=some o
 | [],_,e=>nomatch e
 | x::l,i,e=>by
  unfold kz at e
  rw [List.lookup_cons] at e
  split at e
  ·rename_i q;cases e;exact⟨0,eq_of_beq q,rfl⟩
  ·obtain⟨j,h1,h2⟩:=kz_look e
   exact⟨j+1,by rw [h1,Nat.add_assoc,Nat.add_comm 1],h2⟩
theorem kIn {P:Params} {h:Heap} (e:h.objs=(L P).toArray):(K P).In h:=fun a o q=>by
 obtain⟨j,rfl,hj⟩:=kz_look q
 have lv:=List.all_eq_true.mp (live_all P) o (List.mem_of_getElem? hj)
 unfold Heap.get?
 rw [e,List.getElem?_toArray,Nat.zero_add,hj]
 obtain⟨c,d,dt,sl⟩:=o
 cases dt<;>first|rfl|exact (Bool.false_ne_true lv).elim
end Mine.Hd
namespace Mine
open PySem PySem.W PySem.Calls PyProof.Rows PySem.Spec
theorem join (plain:∀ {ns:List Int},ns.length≤63→CN 12 87 [.frz ns] [] fun v _=>v=.bool true):PySem.Challenge.rw_xm0318_01.Holds:=by
 w_on
 refine holds_law Hd.said fun said=>?_
 refine holds_open (q:=Hd.lawView) (loose:=Hd.looseNames) (Xt:=Hd.X0) (XP:=fun _ _=>True) (YP:=fun w h=>(Hd.K w.params).In h) (d:=Hd.lawRec) (kwd:=[]) Hd.left_ok (fun w s e=>Hd.kIn e) (fun _ _ _ x k=>Frag.In.keeps x k) (fun _ _=>trivial) (fun _ _ _ _ _=>trivial)
  (by kernel_rfl) (by kernel_rfl) (by kernel_rfl) (fun s e=>recFacts_of e) (by rfl) said (by decide +kernel) ⟨rfl,rfl,rfl,rfl,rfl,by decide +kernel⟩ ?hw ?hc
 case hw=>w_witness2
 intro w s₀ s₁ mg mb G KX fa o pm cd doc dV kV ho hd hcd hD hmg hg args vals as hpre hlay hrd hwl hlo
 have A:=AllIn.of (Hd.all_in w.params)
 have hlow:∃ o,s₁.heap.get? sysModules=some o:=⟨_,KX _ _ (by rfl)⟩
 refine Ground.open G ?_
 intro T B D TE TW
 clear hd hcd hD ho
 wrow_args hpre hlay hrd hwl hlo
 have e:=law_at KX T.g A
 have hf:fa=fnOf' 87:=by
  have h:mg (Str.ofString "law")=some (.ref fa):=hmg
  rw [e] at h;cases h;rfl
 subst hf
 rename_i ns _ _ _ _ _ _ _ _ _ _ hL _ _ _ hI _ hn _
 refine join_call (w:=w) KX T hlow A (Hd.fns_in w.params) hL hI (plain (by omega)) fun s' k hg' ho'=>?_
 refine⟨.inl ⟨_,.bool true,[],rfl,fun cls=>?_,.bool true,?_,?_⟩,.of_keep k,ho',.of_eq (hg'.trans hg)⟩
 ·first|rfl|(revert cls;wrow_none_raised)
 ·wrow_post
 ·exact fun _=>⟨List.nodup_nil,fun _ h=>nomatch h⟩
end Mine
end
open PySem PySem.W PyProof.Rows
theorem PySem.Challenge.cw_xm0318_01_holds : PySem.Challenge.rw_xm0318_01.Holds := by
  exact Mine.join fun {ns} h => Mine.plain ns h
