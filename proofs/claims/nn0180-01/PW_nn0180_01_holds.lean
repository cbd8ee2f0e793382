import PyProof.Rows.All
import PyProof.PureStr
import PyProof.CallFns
import PyProof.CallStr
import PyProof.StrWalks
import PyProof.CompFree
import PyProof.ListOps
import PyProof.DictCompW
import PyProof.DictIter
import PyProof.DictWalks
import PyProof.EqAt
import PyProof.NeKinds
import PyProof.StrOps2
import PyProof.RangeFor
import PyProof.IsiH_list
import PyProof.ListCopy
import PyProof.WalkInts
import PyProof.Rows.TupIn
import PyProof.Rows.StrInSeq
import PyProof.Rows.StrJoin2
import PyProof.Rows.RuleN_abs
import PyProof.TupleOps
import PyProof.TupleOfSeq
import PyProof.Rows.SortShell
import PyProof.Rows.SortWalk
import PyProof.Rows.Range3
import PyProof.Rows.SortStr
import Wide.WTab
import OpenK.KLine
import KE.KxBytes
import KE.BytesMake
import KE.KBytesWalk
import KE.KBytesCut
import KE.KDictList
import KE.KDictSum
import KE.KDictOf
import KE.KEqDict
import KE.KTurns
import KE.KIsAll
import KE.KSliceW
import KE.KRevSl
import KE.KTab
import OpenK.AllK
import Wide.All
import Lean
import PySem.Challenge.RW_nn0180_01
open PySem PySem.W PyProof.Rows PySem.Calls
set_option Elab.async false
set_option compiler.extract_closed false
set_option linter.unusedVariables false
set_option genSizeOf false
set_option genSizeOfSpec false
namespace Mine
theorem zd {p:Prop} (h:p:=by decide):p:=h
theorem zo {p:Prop} (h:p:=by lia):p:=h
theorem zk {p:Prop} (h:p:=by kernel_rfl):p:=h
theorem zs {p:Prop} (h:p:=by simp):p:=h
theorem zu {p:Prop} (h:p:=by(simp;lia)):p:=h
theorem zm {p:Prop} (h:p:=by(rw[List.length_map];lia)):p:=h
theorem zl {p:Prop} (h:p:=by exact Nat.le_of_ble_eq_true rfl):p:=h
noncomputable section
set_option maxRecDepth 100000 in
set_option maxHeartbeats 0 in
theorem Kk:PySem.Challenge.rw_nn0180_01.wellSaid=true:=by
 unfold OpenLaw.wellSaid OpenRow.wellSaid OpenRow.partSaid looksOpen
 repeat' (with_reducible refine look_both ?_ ?_)
 . as_aux_lemma=>(rw[PySem.W.Fast.te11788848310118352699];kernel_rfl)
 . as_aux_lemma=>(rw[PySem.W.Fast.te9807087744658564304,PySem.W.Fast.te12862048085361865435];kernel_rfl)
 . as_aux_lemma=>(rw[PySem.W.Fast.te8377067652309620493];kernel_rfl)
 . as_aux_lemma=>(rw[PySem.W.R.allR_eq,PySem.W.Fast.te18344453789297297638,PySem.W.Fast.te3471404346716756564,PySem.W.Fast.sDec_eq,PySem.W.Fast.te14412699480532031325];kernel_rfl)
 . as_aux_lemma=>(rw[PySem.W.Fast.te8326940854005059898,PySem.W.R.allR_eq,PySem.W.Fast.te5923862056798008813,PySem.W.Fast.te3471404346716756564,PySem.W.Fast.sDec_eq,PySem.W.Fast.te17691160309236699985,PySem.W.R.filterR_eq,PySem.W.Fast.te13343964577679436407];kernel_rfl)
 . as_aux_lemma=>(rw[PySem.W.Fast.te17119622794617984870,PySem.W.Fast.te17868728402115742887];kernel_rfl)
 . as_aux_lemma=>(kernel_rfl)
 . as_aux_lemma=>(kernel_rfl)
 . as_aux_lemma=>(rw[PySem.W.R.allR_eq,PySem.W.Fast.te9706382859710513879];kernel_rfl)
 . as_aux_lemma=>(rw[PySem.W.R.allR_eq,PySem.W.Fast.te3471404346716756564,PySem.W.Fast.sDec_eq,PySem.W.Fast.te18344453789297297638,PySem.W.S.strDecS_eq,PySem.W.Fast.te2357444279172408678];kernel_rfl)
 . as_aux_lemma=>(rw[PySem.W.R.mapR_eq,PySem.W.Fast.sDec_eq];kernel_rfl)
 . as_aux_lemma=>(rw[PySem.W.R.allR_eq,PySem.W.Fast.te4857012375875476094,PySem.W.Fast.named_eq,PySem.W.Fast.te3471404346716756564,PySem.W.Fast.sDec_eq,PySem.W.Fast.te18344453789297297638];kernel_rfl)
 . as_aux_lemma=>(rw[PySem.W.Fast.te13582783067957832011];kernel_rfl)
 . as_aux_lemma=>(rw[PySem.W.Fast.te5318747976498570220];kernel_rfl)
 . as_aux_lemma=>(rw[PySem.W.Fast.te5318747976498570220];kernel_rfl)
 . as_aux_lemma=>(rw[PySem.W.R.allR_eq,PySem.W.Fast.te5318747976498570220];kernel_rfl)
 . as_aux_lemma=>(rw[PySem.W.R.allR_eq,PySem.W.Fast.te4579403493507170074,PySem.W.R.anyR_eq,PySem.W.Fast.te4274047373036748609];kernel_rfl)
 . as_aux_lemma=>(rw[PySem.W.R.allR_eq];kernel_rfl)
 . as_aux_lemma=>(kernel_rfl)
 . as_aux_lemma=>(rw[PySem.W.Fast.te3471404346716756564,PySem.W.Fast.sDec_eq,PySem.W.Fast.te18344453789297297638];kernel_rfl)
 . as_aux_lemma=>(rw[PySem.W.Fast.te3471404346716756564,PySem.W.Fast.sDec_eq,PySem.W.Fast.te12749700546528644094];kernel_rfl)
 . as_aux_lemma=>(kernel_rfl)
 . as_aux_lemma=>(rw[PySem.W.R.allR_eq,PySem.W.Fast.te10501279942588096481];kernel_rfl)
 . as_aux_lemma=>(rw[PySem.W.Fast.te8179353310426384613];kernel_rfl)
 . as_aux_lemma=>(kernel_rfl)
 . as_aux_lemma=>(kernel_rfl)
 . as_aux_lemma=>(rw[PySem.W.Fast.te8326940854005059898,PySem.W.Fast.te797321630700447069,PySem.W.Fast.te9572597257264208301];kernel_rfl)
 . as_aux_lemma=>(rw[PySem.W.Fast.te9558739934217749035];kernel_rfl)
 . as_aux_lemma=>(rw[PySem.W.Fast.te16286561074155671207];kernel_rfl)
 . as_aux_lemma=>(rw[PySem.W.R.allR_eq,PySem.W.Fast.sDec_eq];kernel_rfl)
 . as_aux_lemma=>(rw[PySem.W.R.allR_eq,PySem.W.Fast.te797321630700447069,PySem.W.Fast.named_eq,PySem.W.Fast.sDec_eq,PySem.W.Fast.te6984425678791042302];kernel_rfl)
 . as_aux_lemma=>(rw[PySem.W.R.allR_eq,PySem.W.Fast.te17095254045102204799,PySem.W.Fast.te12879404354523853263,PySem.W.Fast.te6984425678791042302];kernel_rfl)
 . as_aux_lemma=>(rw[PySem.W.R.allR_eq,PySem.W.Fast.te17095254045102204799,PySem.W.Fast.te12879404354523853263,PySem.W.Fast.te6984425678791042302,PySem.W.Fast.te482687673346738481,PySem.W.Fast.sDec_eq];kernel_rfl)
 . as_aux_lemma=>(rw[PySem.W.Fast.te17119622794617984870,PySem.W.Fast.te3471404346716756564,PySem.W.Fast.sDec_eq,PySem.W.Fast.te9572597257264208301];kernel_rfl)
 . as_aux_lemma=>(rw[PySem.W.Fast.te3471404346716756564,PySem.W.Fast.sDec_eq,PySem.W.Fast.te10792542408131684335];kernel_rfl)
 . as_aux_lemma=>(rw[PySem.W.Fast.te7723801398212525404,PySem.W.Fast.sDec_eq,PySem.W.Fast.te10792542408131684335];kernel_rfl)
 . as_aux_lemma=>(rw[PySem.W.R.allR_eq,PySem.W.Fast.te10792542408131684335,PySem.W.Fast.named_eq];kernel_rfl)
 . as_aux_lemma=>(rw[PySem.W.Fast.te17119622794617984870,PySem.W.Fast.te3471404346716756564,PySem.W.Fast.sDec_eq,PySem.W.Fast.te10792542408131684335];kernel_rfl)
 . as_aux_lemma=>(rw[PySem.W.Fast.te17119622794617984870,PySem.W.Fast.sDec_eq];kernel_rfl)
end
noncomputable section
noncomputable abbrev pw:Program:=PySem.Challenge.pw_nn0180_01
def Dg:Nat->List Obj->BT
 | 0,_=> .nil
 | _+1,[]=> .nil
 | n+1,x::r=> .node x (Dg n (alt r)) (Dg n (alt (r.drop 1)))
where alt:List Obj->List Obj
 | []=>[]
 | [x]=>[x]
 | x::_::r=>x::alt r
def Nx (P:Params):BT:=Dg 6 (boot_heap P).objs.toList
def S0 (w:World) (os:OsState):SharedT:=⟨Nx w.params,11,{},Array.mk [],boot_drawn,boot_toks,os⟩
theorem Mb (w:World) (os:OsState):(S0 w os).abs=⟨boot_heap w.params,Array.mk [],boot_drawn,boot_toks,os⟩:=by kernel_rfl
noncomputable def qv:Program:={pw with main:={pw.main with body:=pw.main.body.drop 237}}
noncomputable def lL:List Str:=(pw.main.scope.names.map (·.1)).filter (· !=("law":Str))
noncomputable abbrev Ev:List Str:=importedModules pw.main.body
def Bk (P:Params) (s:Shared):Bool:=staticsOk Ev (boot_heap P) s.heap&&namesBound pw s.heap&&gensDone s&&laidKept (boot_heap P) s.heap
def Dh (P:Params) (s:Shared):Bool:=staticsOk Ev (boot_heap P) s.heap&&
 (s.heap.isNs mainGlobals&&(s.heap.nsKeys mainGlobals).all fun k=> @List.elem Str (@instBEqOfDecidableEq Str PySem.W.Fast.sDec) k PySem.W.Fast.tw12749700546528644094 || @List.elem Str (@instBEqOfDecidableEq Str PySem.W.Fast.sDec) k (PySem.W.Fast.tw18344453789297297638 pw))&&gensDone s&&laidKept (boot_heap P) s.heap
theorem GJ:Bk=Dh:=by
 funext P s;unfold Bk Dh namesBound;rw[PySem.W.Fast.te18344453789297297638,PySem.W.Fast.te12749700546528644094,PySem.W.Fast.sDec_eq]
noncomputable abbrev GK (s:Shared):=openSeen qv lL Ev (fun _=>true) true s
abbrev Kl (s:Shared):=PySem.W.Fast.tw4187177175401517315 qv lL Ev (fun _=>true) true s
theorem IR (s:Shared):GK s=Kl s:=by unfold GK;rw[PySem.W.Fast.te4187177175401517315]
def zv {α:Type} (obs:SharedT->α) (val:Params->α):Prop:=∀(w:World) (os:OsState),∃r:SharedT,
 topRun treeTable pw w 11 (some (.ref 6)) 13000 ⟨boot_heap w.params,Array.mk [],boot_drawn,boot_toks,os⟩ (topStub pw)=some r.abs/\
 Bk w.params r.abs=true/\GK r.abs=openGood qv lL/\obs r=val w.params
theorem Ny:opening pw=plainProg pw.main.scope.names:=by kernel_rfl
theorem Mc:∀s,fenceModules? pw s=some s:=by intro s;kernel_rfl
theorem Q8 (P:Params):((boot_heap P).isNs mainGlobals,(boot_heap P).objs.size,(boot_heap P).nsMap mainGlobals "__annotations__")=(true,11,some (Value.ref 6)):=by
 rw[PySem.W.Fast.te8920871248978507458]
 kernel_rfl
end
noncomputable section
theorem Nz {w:World} {os:OsState} {r:SharedT} (t:topRun treeTable pw w 11 (some (.ref 6)) 13000 ⟨boot_heap w.params,Array.mk [],boot_drawn,boot_toks,os⟩ (topStub pw)=some r.abs) (q1:Bk w.params r.abs=true):
 topFrom treeTable pw w 13000 ⟨boot_heap w.params,Array.mk [],boot_drawn,boot_toks,os⟩=some r.abs:=by
 obtain⟨a1,a23⟩:=Prod.mk.inj (Q8 w.params);obtain⟨a2,a3⟩:=Prod.mk.inj a23;unfold Bk at q1;unfold topFrom;simp only [a1,a2,a3,t,q1,Option.bind_some];rfl
theorem Md (w:World):∃os,fencedOpening treeTable pw w 13000=some ⟨boot_heap w.params,Array.mk [],boot_drawn,boot_toks,os⟩:=by
 have h0:=boot_open (p:=pw) (N:=13000) Ny zd Mc w;obtain⟨⟨hp,gs,d,k,os⟩,e,e'⟩:=Option.map_eq_some_iff.mp h0;obtain⟨h1,e'⟩:=Prod.mk.inj e';obtain⟨h2,e'⟩:=Prod.mk.inj e';obtain⟨h3,h4⟩:=Prod.mk.inj e';dsimp only at h1 h2 h3 h4;subst h1 h2 h3 h4;exact⟨os,e⟩
theorem IS {α:Type} {obs:SharedT->α} {val:Params->α} (Yf:Shared->α) (hY:∀r,Yf r.abs=obs r) (h:zv obs val):
 LeftO pw qv lL (fun _=>true) Yf (fun w=>val w.params) 13000:=fun w=>by
 obtain⟨os,e⟩:=Md w;obtain⟨r,t,q1,q2,q3⟩:=h w os;have tf:=Nz t q1;have e3:openEnds treeTable pw w 13000=some r.abs:=by
  unfold openEnds;rw[e,Option.bind_some,tf]
 rw[e3,Option.map_some];refine congrArg some (Prod.ext ?_ ?_)
 . exact q2
 . exact(hY r).trans q3
end
noncomputable section
noncomputable def Bl:DefRec:=match recsOf qv with
 | d::_=>d
 | []=>⟨"",⟨[],[],none,[],[],none,[]⟩,[],⟨.function,[],false,false,[]⟩,⟨0,0,0,0⟩⟩
noncomputable def GM (r:SharedT) (a:Addr):Option Obj:=match Nat.blt a r.n with
 | true=>alive ((r.tree.get a).getD default)
 | false=>none
theorem IT (r:SharedT) (a:Addr):r.abs.heap.get? a=GM r a:=by
 show(absHeap r.tree r.n r.life).get? a=_;unfold Heap.get? GM;rw[absHeap_at];cases h:Nat.blt a r.n with
 | true=>
  have lt:a<r.n:=Nat.le_of_ble_eq_true h;rw[if_pos lt];generalize (r.tree.get a).getD default=o;obtain⟨c,d,dt,sl⟩:=o;cases dt<;>rfl
 | false=>
  have lt:¬a<r.n:=fun q=>by rw[show Nat.blt a r.n=true from Nat.ble_eq_true_of_le q] at h;cases h
  rw[if_neg lt]
theorem Ew:defOf qv "law"=some (Bl,[]):=by kernel_rfl
theorem IU:pw.theDef "law"=some (Bl.params,Bl.body,Bl.scope):=by
 rw[PySem.W.Fast.te10235530238920679567]
 kernel_rfl
theorem Me:kwWritten? Bl.params.kwonlyargs Bl.params.kw_defaults=some []:=by kernel_rfl
theorem Mf:(chainsOk qv&&opensWell pw&&(frees PySem.Challenge.rw_nn0180_01.row.toRowW&&PySem.Challenge.rw_nn0180_01.row.within.isEmpty))=true:=by kernel_rfl
theorem GN:pw.bare:=⟨rfl,rfl,rfl,rfl,rfl,by decide+kernel⟩
abbrev Ex (K:Params->Frag):Prop:=WalkO qv lL (fun _ _=>True) (InK K) PySem.Challenge.rw_nn0180_01.row.toRowW Bl [] fun f vs=>PySem.call f vs
theorem head (K:Params->Frag) (as:List Addr) (e:∀P,as=(K P).map (·.1)) (h:zv (fun r=>as.map (GM r)) (fun P=>(K P).map fun p=>some p.2))
 (walk:Ex K):PySem.Challenge.rw_nn0180_01.Holds:=by
 refine⟨Kk,?_⟩;have L:=IS (Yf:=fun s=>as.map s.heap.get?) (fun r=>List.map_congr_left fun a _=>IT r a) h;refine holds_open (r:=PySem.Challenge.rw_nn0180_01.row) (q:=qv) (loose:=lL) (Xt:=fun _=>true) (XP:=fun _ _=>True) (Yf:=(kHook K as e).obs) (Ya:=(kHook K as e).val) (YP:=InK K) (N:=13000)
  L (kHook K as e).of (kHook K as e).keeps (fun _ _=>trivial) (fun _ _ _ _ _=>trivial) Ew IU Me (fun _ _=>recFacts_nil rfl) rfl (row_said Kk) Mf GN ?hw walk
 case hw=>w_witness2
end
noncomputable section
noncomputable def tF (i:Nat):Stmt:=(pw.main.body[i]?).getD (.Pass ⟨0,0,0,0⟩)
noncomputable def tM (i j:Nat):Stmt:=match tF i with
 | .ClassDef _ _ _ b _ _ _ _ _ _ _=>(b[j]?).getD (.Pass ⟨0,0,0,0⟩)
 | s=>s
noncomputable def dF (st:Stmt) (q:Str) (df pm cd:Value):FuncData:=match st with
 | .FunctionDef name args body _ _ _ scope _ _ _=>{name,qualname:=q,params:=args,body:= .stmts body,scope,globals:=3,closure:=[],defaults:=df,kwdefaults:= .none,pyModule:=pm,code:=cd}
 | _=>{name:="",qualname:=q,params:=⟨[],[],none,[],[],none,[]⟩,body:= .stmts [],scope:=⟨.function,[],false,false,[]⟩,globals:=3,closure:=[],defaults:=df,kwdefaults:= .none,pyModule:=pm,code:=cd}
noncomputable def dG (st:Stmt) (q:Str):FuncData:=match st with
 | .FunctionDef name args body _ _ _ scope _ _ _=>{name,qualname:=q,params:=args,body:= .stmts body,scope,globals:=0,closure:=[],defaults:= .none,kwdefaults:= .none}
 | _=>{name:="",qualname:=q,params:=⟨[],[],none,[],[],none,[]⟩,body:= .stmts [],scope:=⟨.function,[],false,false,[]⟩,globals:=0,closure:=[],defaults:= .none,kwdefaults:= .none}
noncomputable def oF (st:Stmt) (q:Str) (df pm cd:Value):Obj:={cls:= .type "function",data:= .func (dF st q df pm cd)}
noncomputable def oG (st:Stmt) (q:Str):Obj:={cls:= .none,data:= .func (dG st q)}
noncomputable def oX (c:Value) (fs:List Value):Obj:={cls:=c,data:= .fields fs.toArray}
noncomputable def oT (n:Nat) (vs:List Value):Obj:={cls:= .type "tuple",data:= .seq vs.toArray n}
noncomputable def uv (sl:List (Option Value)):Obj:={cls:= .type "frame",slots:=sl.toArray}
noncomputable def gT:Value:= .type "dict"
noncomputable def u7:Value:= .type "builtin_function_or_method"
noncomputable def jB:Value:= .type "object"
noncomputable def j5:Value:= .bool true
noncomputable def lE:Value:= .type "getset_descriptor"
noncomputable def Tj:Value:= .builtin "type.__prepare__"
noncomputable def Tl:Value:= .type "type"
noncomputable def vh:Value:= .type "super"
noncomputable def vi:Value:= .builtin "object.__init_subclass__"
noncomputable def zw:Value:= .builtin "object.__new__"
noncomputable def j6:Value:= .builtin "ExceptionGroup.__weakref__"
noncomputable def lF:Value:= .builtin "function.__dict__"
noncomputable def lH:Value:= .builtin "function.__dict__#set"
noncomputable def nA:Value:= .type "code"
noncomputable def Fi:Value:= .type "Exception"
noncomputable def IV:Value:= .type "BaseException"
noncomputable def IW:Value:= .builtin "Exception.__new__"
noncomputable def Mg:Value:= .builtin "__main__.__loader__#opaque"
def vj:Obj:=oX u7 [Tj,Tl]
def Q9:Obj:=oT 0 [(.ref 46)]
def oC (n q:Str) (t:Nat) (l a:Int) (r:Addr) (u:Nat):Obj:=oX (.type "code") [.str n t,.str q (t+1),.str "/claim/cut.py" (t+2),.int l 0,.int a 0,.int 0 0,.int 0 0,.int 3 0,.ref r,.bool true,.int 181 0,.ref (r+1),.none,.ref (r+2),.ref (r+3),.ref (r+4),.int u 0,.int l 0,.str "/claim/cut.py" (u+1)]
def oc (n:Str) (t:Nat) (l a:Int) (r:Addr) (u:Nat):Obj:=oC n n t l a r u
def oD (n:Str) (t:Nat) (l:Int) (r:Addr) (u:Nat):Obj:=oX (.type "code") [.str n t,.str n (t+1),.str "/claim/cut.py" (t+2),.int l 0,.int 0 0,.int 0 0,.int 0 0,.int 0 0,.ref r,.bool false,.int 181 0,.ref (r+1),.none,.none,.none,.none,.int u 0,.int l 0,.str "/claim/cut.py" (u+1)]
noncomputable def SJ:Nat->List String->List Value
 | _,[]=>[]
 | t,x::l=> .str (Str.ofString x) t::SJ (t+1) l
def oS (t:Nat) (l:List String):Obj:=oT 0 (SJ t l)
noncomputable def SK:List Nat->List Value
 | a::b::c::l=> .int a 0:: .int b 0:: .ref c::SK l
 | _=>[]
def oL (l:List Nat):Obj:=oX .none (SK l)
def ol:Obj:=oL []
noncomputable def gF:Value:= .str "paperhold.paper" 2454
noncomputable def ji:Value:= .str "paperhold.objects" 619
noncomputable def mT:Value:= .str "paperhold.cursor" 284
noncomputable def nB:Value:= .str "paperhold.reader" 1009
noncomputable def qk:Value:= .str "paperhold.cross" 1188
noncomputable def vk:Value:= .str "law_nn0180_01" 2793
noncomputable def yx:Value:= .str "paperhold.crossstream" 2203
noncomputable def zx:Value:= .str "paperhold.decimals" 466
noncomputable def Be:Value:= .str "paperhold.inflate" 1647
noncomputable def Bm:Value:= .str "paperhold.bits" 1418
noncomputable def nC:Value:= .str "paperhold.errors" 194
noncomputable def nD:Value:= .str "paperhold.lexer" 888
noncomputable def nE:Value:= .str "paperhold.lzw" 1837
noncomputable def pi:Value:= .str "paperhold.predictors" 1982
noncomputable def qn:Value:= .str "paperhold.packed" 2322
noncomputable def vm:Value:= .str "paperhold.huffman" 1558
noncomputable def xj:Value:= .str "paperhold.filters" 2137
noncomputable def Fj:Value:= .str "paperhold.asciis" 1340
noncomputable def Mh:Value:= .str "/claim/cut.py" 172
def oe:Obj:=oT 0 []
noncomputable def kv (k:String) (t:Nat) (v:Value):Str×Tok×Value:=(Str.ofString k,t,v)
noncomputable def gG (P:Params) (c:Value) (n:Nat) (kvs:List (Str×Tok×Value)):Obj:={cls:=c,data:= .dict (kvs.map fun p=>⟨PyData.keyHash P p.1,.str p.1 p.2.1,p.2.2⟩).toArray n}
noncomputable def oK (name:Str) (bases mro:List Value) (ns:Addr) (sub:List Value) (sl:List (Option Value)):Obj:=
 {cls:= .type "type",data:= .cls {name,bases,mro,ns,qualname:=name,subclasses:=sub},slots:=sl.toArray}
def k3 (P:Params):Obj:=gG P gT (228) ([kv "__name__" 165 vk,kv "__doc__" 166 .none,kv "__package__" 167 .none,kv "__loader__" 168 Mg,kv "__spec__" 169 .none,kv "__annotations__" 170 (.ref 6),kv "__builtins__" 171 (.ref 4),kv "__file__" 173 Mh,kv "__cached__" 174 .none,kv "_wall" 193 (.ref 21),kv "PaperError" 235 (.ref 46),kv "SyntaxFault" 251 (.ref 59),kv "CrossFault" 267 (.ref 71),kv "FilterFault" 283 (.ref 83),kv "WHITE" 292 (.ref 86),kv "DELIMITERS" 303 (.ref 87),kv "LINE_FEED" 305 (.int 10 304),kv "RETURN" 307 (.int 13 306),kv "COMMENT" 309 (.int 37 308),kv "MOST_FIGURES_cursor" 311 (.int 20 310),kv "is_white" 318 (.ref 94),kv "is_regular" 325 (.ref 101),kv "is_figure" 332 (.ref 108),kv "Cursor" 465 (.ref 211)]++[kv "MOST_FIGURES_decimals" 469 (.int 40 468),kv "PLUS" 471 (.int 43 470),kv "MINUS" 473 (.int 45 472),kv "POINT" 475 (.int 46 474),kv "ZERO" 477 (.int 48 476),kv "Decimal" 592 (.ref 309),kv "sign_text" 599 (.ref 320),kv "decimal_of" 606 (.ref 327),kv "read_decimal" 618 (.ref 334),kv "MOST_HOPS" 622 (.int 30 621),kv "Name" 651 (.ref 351),kv "String" 682 (.ref 373),kv "Stream" 713 (.ref 394),kv "Reference" 751 (.ref 422),kv "kind_of" 758 (.ref 433),kv "told_plain" 766 (.ref 440),kv "told" 772 (.ref 445),kv "told_objects" 773 (.ref 445),kv "Lookup" 825 (.ref 477),kv "Shelf" 887 (.ref 531),kv "PAREN" 891 (.int 40 890),kv "CLOSE_PAREN" 893 (.int 41 892),kv "LESS" 895 (.int 60 894),kv "GREATER" 897 (.int 62 896)]++[kv "SLASH" 899 (.int 47 898),kv "BACKSLASH" 901 (.int 92 900),kv "HASH" 903 (.int 35 902),kv "SIGNS" 908 (.ref 534),kv "hex_worth" 915 (.ref 541),kv "plain_escape" 922 (.ref 548),kv "name_text" 937 (.ref 556),kv "octal" 947 (.ref 563),kv "escaped_codes" 955 (.ref 570),kv "literal" 966 (.ref 577),kv "hex_string" 972 (.ref 582),kv "run_token" 982 (.ref 589),kv "delimited_token" 991 (.ref 596),kv "next_token" 1000 (.ref 603),kv "is_sign" 1008 (.ref 610),kv "MOST_DEPTH" 1012 (.int 40 1011),kv "Frame" 1049 (.ref 634),kv "is_whole" 1056 (.ref 645),kv "take_reference" 1066 (.ref 652),kv "word_value" 1074 (.ref 659),kv "plain_value" 1086 (.ref 666),kv "dict_of" 1092 (.ref 671),kv "close_frame" 1103 (.ref 678),kv "object_from" 1118 (.ref 686)]++[kv "read_object" 1125 (.ref 693),kv "length_of" 1134 (.ref 700),kv "without_line_end" 1141 (.ref 707),kv "read_stream" 1154 (.ref 715),kv "skip_word" 1163 (.ref 722),kv "take_number" 1173 (.ref 729),kv "read_indirect" 1187 (.ref 737),kv "MOST_GENERATION" 1191 (.int 65535 1190),kv "BLANK" 1193 (.int 32 1192),kv "LETTER_F" 1195 (.int 102 1194),kv "LETTER_N" 1197 (.int 110 1196),kv "Entry" 1237 (.ref 761),kv "take_figures" 1247 (.ref 772),kv "take_blank" 1254 (.ref 779),kv "take_entry_end" 1262 (.ref 786),kv "take_entry" 1273 (.ref 793),kv "take_count" 1282 (.ref 800),kv "take_subsection" 1293 (.ref 807),kv "take_trailer" 1303 (.ref 814),kv "read_classic" 1311 (.ref 821),kv "overlaid" 1321 (.ref 828),kv "find_start" 1332 (.ref 835),kv "tail" 1339 (.ref 842),kv "HEX_END" 1343 (.int 62 1342)]++[kv "TILDE" 1345 (.int 126 1344),kv "LEAST_SIGN" 1347 (.int 33 1346),kv "MOST_SIGN" 1349 (.int 117 1348),kv "FOUR_NOUGHTS" 1351 (.int 122 1350),kv "MOST_GROUP" 1357 (.int 4294967295 1356),kv "RUN_END" 1359 (.int 128 1358),kv "figure_worth" 1366 (.ref 849),kv "hex_decoded" 1372 (.ref 854),kv "octets_of_group" 1385 (.ref 861),kv "is_end_at" 1394 (.ref 868),kv "base85_decoded" 1406 (.ref 875),kv "run_decoded" 1417 (.ref 882),kv "OCTET" 1421 (.int 8 1420),kv "low_bits" 1429 (.ref 889),kv "BitsIn" 1502 (.ref 942),kv "HighBitsIn" 1557 (.ref 984),kv "greatest_length" 1566 (.ref 995),kv "tally_of" 1575 (.ref 1002),kv "room_left" 1584 (.ref 1009),kv "is_full" 1591 (.ref 1016),kv "is_over" 1598 (.ref 1023),kv "symbols_of" 1604 (.ref 1028),kv "Decoder" 1646 (.ref 1052),kv "END" 1650 (.int 256 1649)]++[kv "SUM_BASE" 1652 (.int 65521 1651),kv "length_rows" 1663 (.ref 1063),kv "distance_rows" 1674 (.ref 1070),kv "length_order" 1682 (.ref 1077),kv "fixed_lengths" 1688 (.ref 1084),kv "repeated" 1697 (.ref 1091),kv "read_lengths" 1714 (.ref 1098),kv "is_usable" 1721 (.ref 1105),kv "read_decoders" 1730 (.ref 1112),kv "read_part" 1743 (.ref 1525),kv "read_part_inflate" 1744 (.ref 1119),kv "lay_part" 1756 (.ref 1126),kv "read_stored" 1764 (.ref 1133),kv "block_decoders" 1774 (.ref 1140),kv "inflate_into" 1788 (.ref 1147),kv "inflate" 1799 (.ref 1155),kv "adler" 1809 (.ref 1162),kv "check_frame" 1816 (.ref 1169),kv "check_sum" 1827 (.ref 1176),kv "zlib_decoded" 1836 (.ref 1183),kv "BITS_lzw" 1840 (.int 8 1839),kv "WIDEST" 1842 (.int 12 1841),kv "Sizes" 1889 (.ref 1208),kv "Count" 1935 (.ref 1243)]++[kv "read_codes" 1947 (.ref 1254),kv "word_of" 1958 (.ref 1261),kv "unpacked_codes" 1971 (.ref 1268),kv "lzw_decoded" 1981 (.ref 1276),kv "BITS_predictors" 1989 (.ref 1277),kv "Shape" 2024 (.ref 1294),kv "rows_of_octets" 2030 (.ref 1303),kv "samples_of" 2036 (.ref 1308),kv "octets_of" 2049 (.ref 1315),kv "turned_row" 2062 (.ref 1322),kv "tiff_undone" 2072 (.ref 1329),kv "paeth" 2082 (.ref 1336),kv "guess_at" 2095 (.ref 1343),kv "png_undone" 2109 (.ref 1350),kv "parm" 2119 (.ref 1357),kv "shape_of" 2127 (.ref 1364),kv "unpredicted" 2136 (.ref 1371),kv "full_name" 2146 (.ref 1378),kv "filter_names" 2158 (.ref 1385),kv "filter_parms" 2164 (.ref 1390),kv "early_of" 2172 (.ref 1397),kv "undo_plain" 2180 (.ref 1404),kv "undo_one" 2190 (.ref 1411),kv "decoded" 2202 (.ref 1418)]++[kv "WAYS" 2208 (.ref 1419),kv "MOST_WIDTH" 2210 (.int 8 2209),kv "OWN_KEYS" 2217 (.ref 1420),kv "field" 2226 (.ref 1427),kv "is_count" 2233 (.ref 1434),kv "counts_in" 2246 (.ref 1441),kv "widths_in" 2255 (.ref 1448),kv "numbers_in" 2265 (.ref 1455),kv "row_entry" 2275 (.ref 1462),kv "entries_of" 2291 (.ref 1469),kv "trailer_of" 2300 (.ref 1476),kv "is_cross_stream" 2309 (.ref 1483),kv "read_cross_stream" 2321 (.ref 1490),kv "is_object_stream" 2332 (.ref 1497),kv "count_told" 2342 (.ref 1504),kv "next_count" 2350 (.ref 1511),kv "read_pairs" 2364 (.ref 1518),kv "read_part_packed" 2376 (.ref 1525),kv "Opened" 2425 (.ref 1554),kv "open_octets" 2434 (.ref 1565),kv "read_packed_by" 2445 (.ref 1572),kv "read_packed" 2453 (.ref 1579),kv "OF_THE_FILE" 2459 (.ref 1580),kv "Section" 2492 (.ref 1597)]++[kv "stream_section" 2505 (.ref 1608),kv "offset_told" 2515 (.ref 1615),kv "joined_entries" 2525 (.ref 1622),kv "classic_section" 2535 (.ref 1629),kv "hybrid_section" 2546 (.ref 1636),kv "section_by" 2556 (.ref 1643),kv "read_section" 2564 (.ref 1650),kv "chain_along" 2577 (.ref 1657),kv "sections_of" 2585 (.ref 1664),kv "newest_entries" 2591 (.ref 1669),kv "document_trailer" 2597 (.ref 1674),kv "meets" 2607 (.ref 1681),kv "has_far_length" 2614 (.ref 1688),kv "used_object" 2623 (.ref 1695),kv "put_used" 2636 (.ref 1702),kv "packed_places" 2646 (.ref 1709),kv "put_packed_by" 2661 (.ref 1716),kv "drop_file_streams" 2670 (.ref 1723),kv "shelf_by" 2681 (.ref 1730),kv "shelf_of" 2689 (.ref 1737),kv "length_shelf" 2701 (.ref 1744),kv "used_at" 2713 (.ref 1751),kv "object_by" 2726 (.ref 1758),kv "Paper" 2785 (.ref 1797)]++[kv "load" 2792 (.ref 1808),kv "_law_pen" 2800 (.ref 1813),kv "_law_draw" 2809 (.ref 1820),kv "_law_pick" 2817 (.ref 1827),kv "_law_table" 2827 (.ref 1834),kv "_law_octets" 2833 (.ref 1839),kv "_law_classic" 2846 (.ref 1846),kv "_law_stream" 2861 (.ref 1853),kv "_law_laid" 2880 (.ref 1860),kv "_law_rows" 2886 (.ref 1865),kv "_law_heard" 2897 (.ref 1872),kv "law" 2903 (.ref 1877)])
def SL:Obj:=oT 0 [(.int (-1) 209)]
def SM:Obj:=oC "__init__" "PaperError.__init__" 210 7 3 30 216
def SN:Obj:=oF (tM 2 0) "PaperError.__init__" (.ref 29) nC (.ref 35)
def SO (P:Params):Obj:=gG P gT (3) ([kv "__module__" 203 nC,kv "__firstlineno__" 207 (.int 5 206),kv "__init__" 218 (.ref 36),kv "told" 225 (.ref 43),kv "__static_attributes__" 228 (.ref 44),kv "__weakref__" 230 (.ref 47),kv "__doc__" 231 .none])
def SQ:Obj:=oK "PaperError" [Fi] [(.ref 46),Fi,IV,jB] 45 [(.ref 59),(.ref 71),(.ref 83)] [(some (.ref 22)),none,(some (.str "PaperError" 196)),(some (.str "PaperError" 204)),(some IW),(some j5)]
def SR (P:Params):Obj:=gG P gT (2) ([kv "__module__" 243 nC,kv "__firstlineno__" 247 (.int 14 246),kv "__static_attributes__" 248 (.ref 57),kv "__doc__" 249 .none])
def ST:Obj:=oK "SyntaxFault" [(.ref 46)] [(.ref 59),(.ref 46),Fi,IV,jB] 58 [] [(some (.ref 50)),none,(some (.str "SyntaxFault" 236)),(some (.str "SyntaxFault" 244)),(some IW),(some j5)]
def SU (P:Params):Obj:=gG P gT (2) ([kv "__module__" 259 nC,kv "__firstlineno__" 263 (.int 16 262),kv "__static_attributes__" 264 (.ref 69),kv "__doc__" 265 .none])
def SV:Obj:=oK "CrossFault" [(.ref 46)] [(.ref 71),(.ref 46),Fi,IV,jB] 70 [] [(some (.ref 62)),none,(some (.str "CrossFault" 252)),(some (.str "CrossFault" 260)),(some IW),(some j5)]
def SW (P:Params):Obj:=gG P gT (2) ([kv "__module__" 275 nC,kv "__firstlineno__" 279 (.int 18 278),kv "__static_attributes__" 280 (.ref 81),kv "__doc__" 281 .none])
def SX:Obj:=oK "FilterFault" [(.ref 46)] [(.ref 83),(.ref 46),Fi,IV,jB] 82 [] [(some (.ref 74)),none,(some (.str "FilterFault" 268)),(some (.str "FilterFault" 276)),(some IW),(some j5)]
def Ra:Obj:=oT 0 [(.int 0 286),(.int 9 287),(.int 10 288),(.int 12 289),(.int 13 290),(.int 32 291)]
def Rb:Obj:=oT 0 [(.int 40 293),(.int 41 294),(.int 60 295),(.int 62 296),(.int 91 297),(.int 93 298),(.int 123 299),(.int 125 300),(.int 47 301),(.int 37 302)]
def SY:Obj:=oc "is_white" 312 27 1 88 316
def SZ:Obj:=oF (tF 13) "is_white" .none mT (.ref 93)
def NA:Obj:=oc "is_regular" 319 29 1 95 323
def NB:Obj:=oF (tF 14) "is_regular" .none mT (.ref 100)
def NC:Obj:=oc "is_figure" 326 31 1 102 330
def ND:Obj:=oF (tF 15) "is_figure" .none mT (.ref 107)
def NE:Obj:=oT 0 [(.int 0 345),(.int (-1) 347)]
def NF:Obj:=oC "__init__" "Cursor.__init__" 348 35 4 117 355
def NG:Obj:=oF (tM 16 0) "Cursor.__init__" (.ref 116) mT (.ref 122)
def NH:Obj:=oC "is_done" "Cursor.is_done" 358 40 1 124 362
def NI:Obj:=oF (tM 16 1) "Cursor.is_done" .none mT (.ref 129)
def NJ:Obj:=oT 0 [(.int 0 365)]
def NK:Obj:=oC "peek" "Cursor.peek" 366 43 2 132 372
def NL:Obj:=oF (tM 16 2) "Cursor.peek" (.ref 131) mT (.ref 137)
def NM:Obj:=oC "take" "Cursor.take" 375 47 1 139 380
def NN:Obj:=oF (tM 16 3) "Cursor.take" .none mT (.ref 144)
def NO:Obj:=oC "starts" "Cursor.starts" 383 54 2 146 388
def NP:Obj:=oF (tM 16 4) "Cursor.starts" .none mT (.ref 151)
def NQ:Obj:=oC "skip" "Cursor.skip" 391 57 2 153 396
def NR:Obj:=oF (tM 16 5) "Cursor.skip" .none mT (.ref 158)
def NS:Obj:=oC "skip_white" "Cursor.skip_white" 399 63 1 160 404
def NT:Obj:=oF (tM 16 6) "Cursor.skip_white" .none mT (.ref 165)
def NU:Obj:=oC "take_regular" "Cursor.take_regular" 407 74 1 167 412
def NW:Obj:=oF (tM 16 7) "Cursor.take_regular" .none mT (.ref 172)
def NX:Obj:=oC "skip_line_end" "Cursor.skip_line_end" 415 80 1 174 419
def NY:Obj:=oF (tM 16 8) "Cursor.skip_line_end" .none mT (.ref 179)
def NZ:Obj:=oC "number" "Cursor.number" 429 94 1 188 435
def N0:Obj:=oF (tM 16 10) "Cursor.number" .none mT (.ref 193)
def N5:Obj:=oC "find" "Cursor.find" 438 104 3 195 444
def N6:Obj:=oF (tM 16 11) "Cursor.find" .none mT (.ref 200)
def N7:Obj:=oC "find_last" "Cursor.find_last" 447 107 2 202 452
def N8:Obj:=oF (tM 16 12) "Cursor.find_last" .none mT (.ref 207)
def N9 (P:Params):Obj:=gG P gT (4) ([kv "__module__" 340 mT,kv "__firstlineno__" 344 (.int 33 343),kv "__init__" 357 (.ref 123),kv "is_done" 364 (.ref 130),kv "peek" 374 (.ref 138),kv "take" 382 (.ref 145),kv "starts" 390 (.ref 152),kv "skip" 398 (.ref 159),kv "skip_white" 406 (.ref 166),kv "take_regular" 414 (.ref 173),kv "skip_line_end" 421 (.ref 180),kv "take_line" 428 (.ref 187),kv "number" 437 (.ref 194),kv "find" 446 (.ref 201),kv "find_last" 454 (.ref 208),kv "__static_attributes__" 458 (.ref 209),kv "__dict__" 460 (.ref 212),kv "__weakref__" 462 (.ref 213),kv "__doc__" 463 .none])
def Oa:Obj:=oK "Cursor" [jB] [(.ref 211),jB] 210 [] [none,none,(some (.str "Cursor" 333)),(some (.str "Cursor" 341)),(some zw),(some j5)]
def Ob (P:Params):Obj:=gG P gT (4) ([kv "__module__" 485 zx,kv "__firstlineno__" 489 (.int 115 488),kv "__init__" 498 (.ref 229),kv "plus" 506 (.ref 236),kv "minus" 514 (.ref 243),kv "times" 523 (.ref 250),kv "negated" 530 (.ref 257),kv "compared" 538 (.ref 264),kv "is_whole" 545 (.ref 271),kv "floor" 552 (.ref 278),kv "rounded" 560 (.ref 285),kv "told" 567 (.ref 292),kv "text" 575 (.ref 299),kv "least_text" 582 (.ref 306),kv "__static_attributes__" 585 (.ref 307),kv "__dict__" 587 (.ref 310),kv "__weakref__" 589 (.ref 311),kv "__doc__" 590 .none])
def Oc:Obj:=oK "Decimal" [jB] [(.ref 309),jB] 308 [] [none,none,(some (.str "Decimal" 478)),(some (.str "Decimal" 486)),(some zw),(some j5)]
def Od:Obj:=oc "read_decimal" 607 169 1 328 616
def Oe:Obj:=oF (tF 26) "read_decimal" .none zx (.ref 333)
def Og:Obj:=oC "__init__" "Name.__init__" 635 195 2 342 640
def Oh:Obj:=oF (tM 29 0) "Name.__init__" .none ji (.ref 347)
def Oi (P:Params):Obj:=gG P gT (4) ([kv "__module__" 630 ji,kv "__firstlineno__" 634 (.int 193 633),kv "__init__" 642 (.ref 348),kv "__static_attributes__" 644 (.ref 349),kv "__dict__" 646 (.ref 352),kv "__weakref__" 648 (.ref 353),kv "__doc__" 649 .none])
def Oj:Obj:=oK "Name" [jB] [(.ref 351),jB] 350 [] [none,none,(some (.str "Name" 623)),(some (.str "Name" 631)),(some zw),(some j5)]
def Ol:Obj:=oT 0 [(.bool false)]
def Om:Obj:=oC "__init__" "String.__init__" 664 199 3 364 670
def On:Obj:=oF (tM 30 0) "String.__init__" (.ref 363) ji (.ref 369)
def Oo (P:Params):Obj:=gG P gT (4) ([kv "__module__" 659 ji,kv "__firstlineno__" 663 (.int 197 662),kv "__init__" 672 (.ref 370),kv "__static_attributes__" 675 (.ref 371),kv "__dict__" 677 (.ref 374),kv "__weakref__" 679 (.ref 375),kv "__doc__" 680 .none])
def Op:Obj:=oK "String" [jB] [(.ref 373),jB] 372 [] [none,none,(some (.str "String" 652)),(some (.str "String" 660)),(some zw),(some j5)]
def Oq:Obj:=oC "__init__" "Stream.__init__" 695 204 3 385 701
def Os:Obj:=oF (tM 31 0) "Stream.__init__" .none ji (.ref 390)
def Ot (P:Params):Obj:=gG P gT (4) ([kv "__module__" 690 ji,kv "__firstlineno__" 694 (.int 202 693),kv "__init__" 703 (.ref 391),kv "__static_attributes__" 706 (.ref 392),kv "__dict__" 708 (.ref 395),kv "__weakref__" 710 (.ref 396),kv "__doc__" 711 .none])
def Ou:Obj:=oK "Stream" [jB] [(.ref 394),jB] 393 [] [none,none,(some (.str "Stream" 683)),(some (.str "Stream" 691)),(some zw),(some j5)]
def Ov (P:Params):Obj:=gG P gT (4) ([kv "__module__" 721 ji,kv "__firstlineno__" 725 (.int 207 724),kv "__init__" 734 (.ref 412),kv "pair" 741 (.ref 419),kv "__static_attributes__" 744 (.ref 420),kv "__dict__" 746 (.ref 423),kv "__weakref__" 748 (.ref 424),kv "__doc__" 749 .none])
def Ow:Obj:=oK "Reference" [jB] [(.ref 422),jB] 421 [] [none,none,(some (.str "Reference" 714)),(some (.str "Reference" 722)),(some zw),(some j5)]
def Ox:Obj:=oc "kind_of" 752 215 1 427 756
def Oy:Obj:=oF (tF 33) "kind_of" .none ji (.ref 432)
def Oz:Obj:=oc "told_plain" 759 237 2 434 764
def OA:Obj:=oF (tF 34) "told_plain" .none ji (.ref 439)
def OB:Obj:=oX nA [(.str "told" 767),(.str "told" 768),(.str "/claim/cut.py" 769),(.int 251 0),(.int 1 0),(.int 0 0),(.int 0 0),(.int 3 0),(.ref 441),j5,(.int 181 0),(.ref 442),.none,.none,.none,(.ref 443),(.int 770 0),(.int 251 0),(.str "/claim/cut.py" 771)]
def OC:Obj:=oF (tF 35) "told" .none ji (.ref 444)
def OD:Obj:=oT 0 [.none,.none]
def OE:Obj:=oC "__init__" "Lookup.__init__" 786 263 3 454 792
def OF:Obj:=oF (tM 37 0) "Lookup.__init__" (.ref 453) ji (.ref 459)
def OG:Obj:=oC "fetch" "Lookup.fetch" 795 267 2 461 804
def OH:Obj:=oF (tM 37 1) "Lookup.fetch" .none ji (.ref 466)
def OI:Obj:=oC "get" "Lookup.get" 807 278 3 468 813
def OJ:Obj:=oF (tM 37 2) "Lookup.get" .none ji (.ref 473)
def OK (P:Params):Obj:=gG P gT (4) ([kv "__module__" 781 ji,kv "__firstlineno__" 785 (.int 261 784),kv "__init__" 794 (.ref 460),kv "fetch" 806 (.ref 467),kv "get" 815 (.ref 474),kv "__static_attributes__" 818 (.ref 475),kv "__dict__" 820 (.ref 478),kv "__weakref__" 822 (.ref 479),kv "__doc__" 823 .none])
def OL:Obj:=oK "Lookup" [jB] [(.ref 477),jB] 476 [(.ref 531)] [none,none,(some (.str "Lookup" 774)),(some (.str "Lookup" 782)),(some zw),(some j5)]
def OM (P:Params):Obj:=gG P gT (2) ([kv "__module__" 833 ji,kv "__firstlineno__" 837 (.int 280 836),kv "put" 847 (.ref 495),kv "add" 855 (.ref 502),kv "drop" 863 (.ref 509),kv "numbers" 870 (.ref 516),kv "root" 877 (.ref 523),kv "told" 883 (.ref 528),kv "__static_attributes__" 884 (.ref 529),kv "__doc__" 885 .none])
def ON:Obj:=oK "Shelf" [(.ref 477)] [(.ref 531),(.ref 477),jB] 530 [] [(some (.ref 482)),none,(some (.str "Shelf" 826)),(some (.str "Shelf" 834)),(some zw),(some j5)]
def Mi:Obj:=oT 0 [(.int 91 904),(.int 93 905),(.int 123 906),(.int 125 907)]
def OO:Obj:=oT 0 [(.int (-1) 924)]
def OP:Obj:=oc "name_text" 925 330 2 550 935
def OQ:Obj:=oF (tF 50) "name_text" (.ref 549) nD (.ref 555)
def OR:Obj:=oc "run_token" 973 397 2 583 980
def OS:Obj:=oF (tF 55) "run_token" .none nD (.ref 588)
def OT:Obj:=oc "delimited_token" 983 405 3 590 989
def OU:Obj:=oF (tF 56) "delimited_token" .none nD (.ref 595)
def OV:Obj:=oc "next_token" 992 423 1 597 998
def OW:Obj:=oF (tF 57) "next_token" .none nD (.ref 602)
def OX:Obj:=oc "is_sign" 1001 432 2 604 1006
def OY:Obj:=oF (tF 58) "is_sign" .none nD (.ref 609)
def OZ:Obj:=oC "__init__" "Frame.__init__" 1025 438 2 618 1030
def O0:Obj:=oF (tM 61 0) "Frame.__init__" .none nB (.ref 623)
def O1:Obj:=oC "wants_key" "Frame.wants_key" 1033 442 1 625 1037
def O2:Obj:=oF (tM 61 1) "Frame.wants_key" .none nB (.ref 630)
def O3 (P:Params):Obj:=gG P gT (4) ([kv "__module__" 1020 nB,kv "__firstlineno__" 1024 (.int 436 1023),kv "__init__" 1032 (.ref 624),kv "wants_key" 1039 (.ref 631),kv "__static_attributes__" 1042 (.ref 632),kv "__dict__" 1044 (.ref 635),kv "__weakref__" 1046 (.ref 636),kv "__doc__" 1047 .none])
def O4:Obj:=oK "Frame" [jB] [(.ref 634),jB] 633 [] [none,none,(some (.str "Frame" 1013)),(some (.str "Frame" 1021)),(some zw),(some j5)]
def O5:Obj:=oc "is_whole" 1050 444 1 639 1054
def O6:Obj:=oF (tF 62) "is_whole" .none nB (.ref 644)
def O7:Obj:=oc "take_reference" 1057 446 2 646 1064
def O8:Obj:=oF (tF 63) "take_reference" .none nB (.ref 651)
def O9:Obj:=oc "plain_value" 1075 463 3 660 1084
def Pa:Obj:=oF (tF 65) "plain_value" .none nB (.ref 665)
def Pb:Obj:=oX nA [(.str "dict_of" 1087),(.str "dict_of" 1088),(.str "/claim/cut.py" 1089),(.int 480 0),(.int 1 0),(.int 0 0),(.int 0 0),(.int 3 0),(.ref 667),j5,(.int 181 0),(.ref 668),.none,.none,.none,(.ref 669),(.int 1090 0),(.int 480 0),(.str "/claim/cut.py" 1091)]
def Pc:Obj:=oF (tF 66) "dict_of" .none nB (.ref 670)
def Pd:Obj:=oc "close_frame" 1093 485 3 672 1101
def Pe:Obj:=oF (tF 67) "close_frame" .none nB (.ref 677)
def Pf:Obj:=oT 0 [j5]
def Pg:Obj:=oc "object_from" 1104 495 3 680 1116
def Ph:Obj:=oF (tF 68) "object_from" (.ref 679) nB (.ref 685)
def Pi:Obj:=oc "read_object" 1119 515 1 687 1123
def Pj:Obj:=oF (tF 69) "read_object" .none nB (.ref 692)
def Pk:Obj:=oc "length_of" 1126 517 2 694 1132
def Pl:Obj:=oF (tF 70) "length_of" .none nB (.ref 699)
def Pm:Obj:=oT 0 [.none]
def Pn:Obj:=oc "read_stream" 1142 528 3 709 1152
def Po:Obj:=oF (tF 72) "read_stream" (.ref 708) nB (.ref 714)
def Pp:Obj:=oc "skip_word" 1155 543 2 716 1161
def Pq:Obj:=oF (tF 73) "skip_word" .none nB (.ref 721)
def Pr:Obj:=oc "take_number" 1164 550 1 723 1171
def Ps:Obj:=oF (tF 74) "take_number" .none nB (.ref 728)
def Pt:Obj:=oT 0 [.none]
def Pu:Obj:=oc "read_indirect" 1174 555 2 731 1185
def Pv:Obj:=oF (tF 75) "read_indirect" (.ref 730) nB (.ref 736)
def Pw:Obj:=oC "__init__" "Entry.__init__" 1210 573 4 745 1217
def Px:Obj:=oF (tM 81 0) "Entry.__init__" .none qk (.ref 750)
def Py:Obj:=oC "told" "Entry.told" 1220 578 1 752 1224
def Pz:Obj:=oF (tM 81 1) "Entry.told" .none qk (.ref 757)
def PA (P:Params):Obj:=gG P gT (4) ([kv "__module__" 1205 qk,kv "__firstlineno__" 1209 (.int 571 1208),kv "__init__" 1219 (.ref 751),kv "told" 1226 (.ref 758),kv "__static_attributes__" 1230 (.ref 759),kv "__dict__" 1232 (.ref 762),kv "__weakref__" 1234 (.ref 763),kv "__doc__" 1235 .none])
def PB:Obj:=oK "Entry" [jB] [(.ref 761),jB] 760 [] [none,none,(some (.str "Entry" 1198)),(some (.str "Entry" 1206)),(some zw),(some j5)]
def PC:Obj:=oc "take_figures" 1238 580 2 766 1245
def PD:Obj:=oF (tF 82) "take_figures" .none qk (.ref 771)
def PE:Obj:=oc "take_blank" 1248 587 1 773 1252
def PF:Obj:=oF (tF 83) "take_blank" .none qk (.ref 778)
def PG:Obj:=oc "take_entry_end" 1255 591 1 780 1260
def PH:Obj:=oF (tF 84) "take_entry_end" .none qk (.ref 785)
def PI:Obj:=oc "take_entry" 1263 597 1 787 1271
def PJ:Obj:=oF (tF 85) "take_entry" .none qk (.ref 792)
def PK:Obj:=oc "take_count" 1274 611 1 794 1280
def PL:Obj:=oF (tF 86) "take_count" .none qk (.ref 799)
def PM:Obj:=oc "take_subsection" 1283 617 2 801 1291
def PN:Obj:=oF (tF 87) "take_subsection" .none qk (.ref 806)
def PO:Obj:=oc "take_trailer" 1294 628 1 808 1301
def PP:Obj:=oF (tF 88) "take_trailer" .none qk (.ref 813)
def PQ:Obj:=oc "read_classic" 1304 638 1 815 1309
def PR:Obj:=oF (tF 89) "read_classic" .none qk (.ref 820)
def PS:Obj:=oc "overlaid" 1312 650 1 822 1319
def PT:Obj:=oF (tF 90) "overlaid" .none qk (.ref 827)
def PU:Obj:=oc "find_start" 1322 657 1 829 1330
def PX:Obj:=oF (tF 91) "find_start" .none qk (.ref 834)
def PY:Obj:=oc "tail" 1333 671 1 836 1337
def PZ:Obj:=oF (tF 92) "tail" .none qk (.ref 841)
def Km:Obj:=oc "filter_names" 2147 1207 2 1379 2156
def Ko:Obj:=oF (tF 167) "filter_names" .none xj (.ref 1384)
def Kq:Obj:=oX nA [(.str "filter_parms" 2159),(.str "filter_parms" 2160),(.str "/claim/cut.py" 2161),(.int 1218 0),(.int 3 0),(.int 0 0),(.int 0 0),(.int 3 0),(.ref 1386),j5,(.int 181 0),(.ref 1387),.none,.none,.none,(.ref 1388),(.int 2162 0),(.int 1218 0),(.str "/claim/cut.py" 2163)]
def Kr:Obj:=oF (tF 168) "filter_parms" .none xj (.ref 1389)
def Kt:Obj:=oc "decoded" 2191 1256 2 1412 2200
def Ku:Obj:=oF (tF 172) "decoded" .none xj (.ref 1417)
def GO:Obj:=oS 2205 ["free","used","packed"]
def GP:Obj:=oS 2211 ["Length","Filter","DecodeParms","W","Index","Type"]
def Kv:Obj:=oc "field" 2218 1266 1 1421 2224
def Kw:Obj:=oF (tF 177) "field" .none yx (.ref 1426)
def Kx:Obj:=oc "is_count" 2227 1271 1 1428 2231
def Ky:Obj:=oF (tF 178) "is_count" .none yx (.ref 1433)
def Kz:Obj:=oc "counts_in" 2234 1273 3 1435 2244
def KB:Obj:=oF (tF 179) "counts_in" .none yx (.ref 1440)
def KC:Obj:=oc "widths_in" 2247 1286 2 1442 2253
def KD:Obj:=oF (tF 180) "widths_in" .none yx (.ref 1447)
def KF:Obj:=oc "numbers_in" 2256 1293 2 1449 2263
def KG:Obj:=oF (tF 181) "numbers_in" .none yx (.ref 1454)
def KH:Obj:=oc "row_entry" 2266 1303 2 1456 2273
def KI:Obj:=oF (tF 182) "row_entry" .none yx (.ref 1461)
def KJ:Obj:=oc "entries_of" 2276 1309 3 1463 2289
def KL:Obj:=oF (tF 183) "entries_of" .none yx (.ref 1468)
def KM:Obj:=oc "trailer_of" 2292 1326 1 1470 2298
def KN:Obj:=oF (tF 184) "trailer_of" .none yx (.ref 1475)
def KO:Obj:=oc "is_cross_stream" 2301 1332 2 1477 2307
def KP:Obj:=oF (tF 185) "is_cross_stream" .none yx (.ref 1482)
def KQ:Obj:=oc "read_cross_stream" 2310 1337 2 1484 2319
def KR:Obj:=oF (tF 186) "read_cross_stream" .none yx (.ref 1489)
def GQ:Obj:=oS 2456 ["Size","Prev","XRefStm"]
def KS:Obj:=oC "__init__" "Section.__init__" 2472 1420 4 1588 2479
def KT:Obj:=oF (tM 200 0) "Section.__init__" .none gF (.ref 1593)
def KU (P:Params):Obj:=gG P gT (4) ([kv "__module__" 2467 gF,kv "__firstlineno__" 2471 (.int 1418 2470),kv "__init__" 2481 (.ref 1594),kv "__static_attributes__" 2485 (.ref 1595),kv "__dict__" 2487 (.ref 1598),kv "__weakref__" 2489 (.ref 1599),kv "__doc__" 2490 .none])
def KV:Obj:=oK "Section" [jB] [(.ref 1597),jB] 1596 [] [none,none,(some (.str "Section" 2460)),(some (.str "Section" 2468)),(some zw),(some j5)]
def KW:Obj:=oc "stream_section" 2493 1424 3 1602 2503
def KX:Obj:=oF (tF 201) "stream_section" .none gF (.ref 1607)
def KY:Obj:=oc "offset_told" 2506 1431 3 1609 2513
def KZ:Obj:=oF (tF 202) "offset_told" .none gF (.ref 1614)
def K0:Obj:=oc "joined_entries" 2516 1438 2 1616 2523
def K5:Obj:=oF (tF 203) "joined_entries" .none gF (.ref 1621)
def K6:Obj:=oc "classic_section" 2526 1444 2 1623 2533
def K7:Obj:=oF (tF 204) "classic_section" .none gF (.ref 1628)
def K8:Obj:=oc "hybrid_section" 2536 1449 3 1630 2544
def K9:Obj:=oF (tF 205) "hybrid_section" .none gF (.ref 1635)
def La:Obj:=oc "section_by" 2547 1455 3 1637 2554
def Lb:Obj:=oF (tF 206) "section_by" .none gF (.ref 1642)
def Lc:Obj:=oc "read_section" 2557 1461 2 1644 2562
def Ld:Obj:=oF (tF 207) "read_section" .none gF (.ref 1649)
def Le:Obj:=oc "chain_along" 2565 1463 3 1651 2575
def Lg:Obj:=oF (tF 208) "chain_along" .none gF (.ref 1656)
def Lh:Obj:=oc "sections_of" 2578 1475 2 1658 2583
def Li:Obj:=oF (tF 209) "sections_of" .none gF (.ref 1663)
def Lj:Obj:=oX nA [(.str "newest_entries" 2586),(.str "newest_entries" 2587),(.str "/claim/cut.py" 2588),(.int 1477 0),(.int 1 0),(.int 0 0),(.int 0 0),(.int 3 0),(.ref 1665),j5,(.int 181 0),(.ref 1666),.none,.none,.none,(.ref 1667),(.int 2589 0),(.int 1477 0),(.str "/claim/cut.py" 2590)]
def Ll:Obj:=oF (tF 210) "newest_entries" .none gF (.ref 1668)
def Lm:Obj:=oX nA [(.str "document_trailer" 2592),(.str "document_trailer" 2593),(.str "/claim/cut.py" 2594),(.int 1479 0),(.int 1 0),(.int 0 0),(.int 0 0),(.int 3 0),(.ref 1670),j5,(.int 181 0),(.ref 1671),.none,.none,.none,(.ref 1672),(.int 2595 0),(.int 1479 0),(.str "/claim/cut.py" 2596)]
def Ln:Obj:=oF (tF 211) "document_trailer" .none gF (.ref 1673)
def Lo:Obj:=oC "__init__" "Paper.__init__" 2739 1571 3 1766 2745
def Lp:Obj:=oF (tM 224 0) "Paper.__init__" .none gF (.ref 1771)
def Lq:Obj:=oC "entry" "Paper.entry" 2748 1577 2 1773 2753
def Lr:Obj:=oF (tM 224 1) "Paper.entry" .none gF (.ref 1778)
def Ls (P:Params):Obj:=gG P gT (4) ([kv "__module__" 2734 gF,kv "__firstlineno__" 2738 (.int 1569 2737),kv "__init__" 2747 (.ref 1772),kv "entry" 2755 (.ref 1779),kv "object_at" 2764 (.ref 1786),kv "shelf" 2773 (.ref 1794),kv "__static_attributes__" 2778 (.ref 1795),kv "__dict__" 2780 (.ref 1798),kv "__weakref__" 2782 (.ref 1799),kv "__doc__" 2783 .none])
def Lu:Obj:=oK "Paper" [jB] [(.ref 1797),jB] 1796 [] [none,none,(some (.str "Paper" 2727)),(some (.str "Paper" 2735)),(some zw),(some j5)]
def Lv:Obj:=oc "load" 2786 1585 1 1802 2790
def Lx:Obj:=oF (tF 225) "load" .none gF (.ref 1807)
def Ly:Obj:=oX nA [(.str "_law_pen" 2795),(.str "_law_pen" 2796),(.str "/claim/cut.py" 2797),(.int 1588 0),(.int 1 0),(.int 0 0),(.int 0 0),(.int 3 0),(.ref 1809),j5,(.int 181 0),(.ref 1810),.none,.none,.none,(.ref 1811),(.int 2798 0),(.int 1588 0),(.str "/claim/cut.py" 2799)]
def Lz:Obj:=oF (tF 227) "_law_pen" .none vk (.ref 1812)
def LA:Obj:=oc "_law_draw" 2801 1590 2 1814 2807
def LB:Obj:=oF (tF 228) "_law_draw" .none vk (.ref 1819)
def LC:Obj:=oc "_law_pick" 2810 1597 2 1821 2815
def LD:Obj:=oF (tF 229) "_law_pick" .none vk (.ref 1826)
def LE:Obj:=oc "_law_table" 2818 1599 2 1828 2825
def LF:Obj:=oF (tF 230) "_law_table" .none vk (.ref 1833)
def LG:Obj:=oX nA [(.str "_law_octets" 2828),(.str "_law_octets" 2829),(.str "/claim/cut.py" 2830),(.int 1604 0),(.int 1 0),(.int 0 0),(.int 0 0),(.int 3 0),(.ref 1835),j5,(.int 181 0),(.ref 1836),.none,.none,.none,(.ref 1837),(.int 2831 0),(.int 1604 0),(.str "/claim/cut.py" 2832)]
def LH:Obj:=oF (tF 231) "_law_octets" .none vk (.ref 1838)
def LI:Obj:=oc "_law_classic" 2834 1606 2 1840 2844
def LJ:Obj:=oF (tF 232) "_law_classic" .none vk (.ref 1845)
def LK:Obj:=oc "_law_stream" 2847 1613 2 1847 2859
def LL:Obj:=oF (tF 233) "_law_stream" .none vk (.ref 1852)
def LM:Obj:=oc "_law_laid" 2862 1621 4 1854 2878
def LN:Obj:=oF (tF 234) "_law_laid" .none vk (.ref 1859)
def LP:Obj:=oX nA [(.str "_law_rows" 2881),(.str "_law_rows" 2882),(.str "/claim/cut.py" 2883),(.int 1641 0),(.int 1 0),(.int 0 0),(.int 0 0),(.int 3 0),(.ref 1861),j5,(.int 181 0),(.ref 1862),.none,.none,.none,(.ref 1863),(.int 2884 0),(.int 1641 0),(.str "/claim/cut.py" 2885)]
def LQ:Obj:=oF (tF 235) "_law_rows" .none vk (.ref 1864)
def LR:Obj:=oc "_law_heard" 2887 1643 2 1866 2895
def LT:Obj:=oF (tF 236) "_law_heard" .none vk (.ref 1871)
def LV:Obj:=oX nA [(.str "law" 2898),(.str "law" 2899),(.str "/claim/cut.py" 2900),(.int 1650 0),(.int 1 0),(.int 0 0),(.int 0 0),(.int 3 0),(.ref 1873),j5,(.int 181 0),(.ref 1874),.none,.none,.none,(.ref 1875),(.int 2901 0),(.int 1650 0),(.str "/claim/cut.py" 2902)]
def LW:Obj:=oF (tF 237) "law" .none vk (.ref 1876)
def Tm (P:Params):List Obj:=[boot_o_0 P,boot_o_1 P,gG P .none (2) ([kv "type.__subclasses__.Exception.0" 232 (.int 46 0),kv "type.__subclasses__.Exception.n" 233 (.int 1 0)]),k3 P,boot_o_4 P,boot_o_5 P,boot_o_6 P,boot_o_7 P,boot_o_8 P,boot_o_9 P,boot_o_10 P,oe,oL [1,0,20,5,0,27,14,0,55,16,0,67,18,0,79,27,0,93,29,0,100,31,0,107,33,0,114,115,0,221,161,0,319,163,0,326,169,0,333,193,0,340,197,0,361,202,0,383,207,0,404,215,0,432,237,0,439,251,0,444,261,0,451,280,0,487,310,0,540,318,0,547,330,0,555,346,0,562,353,0,569,362,0,576,382,0,581,397,0,588,405,0,595,423,0,602,432,0,609,436,0,616,444,0,644,446,0,651,455,0,658,463,0,665,480,0,670,485,0,677,495,0,685,515,0,692,517,0,699,522,0,706,528,0,714,543,0,721,550,0,728,555,0,736,571,0,743,580,0,771,587,0,778,591,0,785,597,0,792,611,0,799,617,0,806,628,0,813,638,0,820,650,0,827,657,0,834,671,0,841,681,0,848,689,0,853,702,0,860,714,0,867,721,0,874,743,0,881,761,0,888,763,0,895,798,0,952,825,0,994,827,0,1001,833,0,1008,838,0,1015,840,0,1022,842,0,1027,850,0,1034,872,0,1062,882,0,1069,892,0,1076,900,0,1083,902,0,1090,910,0,1097,933,0,1104,935,0,1111,942,0,1118,957,0,1125,966,0,1132,972,0,1139,979,0,1146,994,0,1154,999,0,1161,1006,0,1168,1015,0,1175,1023,0,1182,1031,0,1189,1045,0,1218,1063,0,1253,1073,0,1260,1082,0,1267,1099,0,1275,1104,0,1283,1112,0,1302,1114,0,1307,1122,0,1314,1136,0,1321,1146,0,1328,1151,0,1335,1156,0,1342,1168,0,1349,1182,0,1356,1189,0,1363,1194,0,1370,1204,0,1377,1207,0,1384,1218,0,1389,1234,0,1396,1241,0,1403,1247,0,1410,1256,0,1417,1266,0,1426,1271,0,1433,1273,0,1440,1286,0,1447,1293,0,1454,1303,0,1461,1309,0,1468,1326,0,1475,1332,0,1482,1337,0,1489,1348,0,1496,1353,0,1503,1358,0,1510,1364,0,1517,1376,0,1524,1388,0,1531,1404,0,1564,1408,0,1571,1414,0,1578,1418,0,1586,1424,0,1607,1431,0,1614,1438,0,1621,1444,0,1628,1449,0,1635,1455,0,1642,1461,0,1649,1463,0,1656,1475,0,1663,1477,0,1668,1479,0,1673,1484,0,1680,1496,0,1687,1498,0,1694,1500,0,1701,1511,0,1708,1520,0,1715,1529,0,1722,1534,0,1729,1541,0,1736,1543,0,1743,1551,0,1750,1559,0,1757,1569,0,1764,1585,0,1807,1588,0,1812,1590,0,1819,1597,0,1826,1599,0,1833,1604,0,1838,1606,0,1845,1613,0,1852,1621,0,1859,1641,0,1864,1643,0,1871,1650,0,1876],oD "<module>" 182 1 11 185,uv [(some (.ref 13)),(some (.ref 3)),(some (.ref 3)),none,(some (.str "__main__" 164)),none,(some (.ref 0))],oe,ol,oS 190 ["k"],oe,oG (tF 0) "_wall",oc "_wall" 187 1 1 15 191,oF (tF 0) "_wall" .none (.str "__main__" 164) (.ref 20),oT 0 [Fi],vj,gG P gT (6) ([kv "__module__" 203 nC,kv "__qualname__" 205 (.str "PaperError" 204),kv "__firstlineno__" 207 (.int 5 206),kv "__init__" 218 (.ref 36),kv "told" 225 (.ref 43),kv "__static_attributes__" 228 (.ref 44)]),oe,oL [7,4,35,12,4,42],oD "PaperError" 198 5 25 201,uv [(some (.ref 27)),(some (.ref 3)),(some (.ref 24)),none,(some nC),none,(some (.ref 0))],SL]
def Tn (P:Params):List Obj:=[oe,ol,oS 213 ["self","what","at"],oe,oG (tM 2 0) "PaperError.__init__",SM,SN,oe,ol,oS 222 ["self"],oe,oG (tM 2 1) "PaperError.told",oC "told" "PaperError.told" 219 12 1 37 223,oF (tM 2 1) "PaperError.told" .none nC (.ref 42),oS 226 ["at","what"],SO P,SQ,oX lE [(.str "__weakref__" 229),(.ref 46),j6,.none],oX vh [(.ref 46),(.ref 46),(.ref 46)],oX u7 [vi,(.ref 46)],Q9,vj,gG P gT (4) ([kv "__module__" 243 nC,kv "__qualname__" 245 (.str "SyntaxFault" 244),kv "__firstlineno__" 247 (.int 14 246),kv "__static_attributes__" 248 (.ref 57)]),oe,ol,oD "SyntaxFault" 238 14 53 241,uv [(some (.ref 55)),(some (.ref 3)),(some (.ref 52)),none,(some nC),none,(some (.ref 0))],oe,SR P,ST]
def To (P:Params):List Obj:=[oX vh [(.ref 59),(.ref 59),(.ref 59)],oX u7 [vi,(.ref 59)],Q9,vj,gG P gT (4) ([kv "__module__" 259 nC,kv "__qualname__" 261 (.str "CrossFault" 260),kv "__firstlineno__" 263 (.int 16 262),kv "__static_attributes__" 264 (.ref 69)]),oe,ol,oD "CrossFault" 254 16 65 257,uv [(some (.ref 67)),(some (.ref 3)),(some (.ref 64)),none,(some nC),none,(some (.ref 0))],oe,SU P,SV,oX vh [(.ref 71),(.ref 71),(.ref 71)],oX u7 [vi,(.ref 71)],Q9,vj,gG P gT (4) ([kv "__module__" 275 nC,kv "__qualname__" 277 (.str "FilterFault" 276),kv "__firstlineno__" 279 (.int 18 278),kv "__static_attributes__" 280 (.ref 81)]),oe,ol,oD "FilterFault" 270 18 77 273,uv [(some (.ref 79)),(some (.ref 3)),(some (.ref 76)),none,(some nC),none,(some (.ref 0))],oe,SW P,SX,oX vh [(.ref 83),(.ref 83),(.ref 83)],oX u7 [vi,(.ref 83)],Ra,Rb,oe,ol]
def Tp (P:Params):List Obj:=[oS 315 ["code"],oe,oG (tF 13) "is_white",SY,SZ,oe,ol,oS 322 ["code"],oe,oG (tF 14) "is_regular",NA,NB,oe,ol,oS 329 ["code"],oe,oG (tF 15) "is_figure",NC,ND,oe,vj,gG P gT (17) ([kv "__module__" 340 mT,kv "__qualname__" 342 (.str "Cursor" 341),kv "__firstlineno__" 344 (.int 33 343),kv "__init__" 357 (.ref 123),kv "is_done" 364 (.ref 130),kv "peek" 374 (.ref 138),kv "take" 382 (.ref 145),kv "starts" 390 (.ref 152),kv "skip" 398 (.ref 159),kv "skip_white" 406 (.ref 166),kv "take_regular" 414 (.ref 173),kv "skip_line_end" 421 (.ref 180),kv "take_line" 428 (.ref 187),kv "number" 437 (.ref 194),kv "find" 446 (.ref 201),kv "find_last" 454 (.ref 208),kv "__static_attributes__" 458 (.ref 209)]),oe,oL [35,4,122,40,4,129,43,4,137,47,4,144,54,4,151,57,4,158,63,4,165,74,4,172,80,4,179,91,4,186,94,4,193,104,4,200,107,4,207],oD "Cursor" 335 33 112 338,uv [(some (.ref 114)),(some (.ref 3)),(some (.ref 111)),none,(some mT),none,(some (.ref 0))],NE,oe,ol,oS 351 ["self","data","at","end"]]
def Tq (P:Params):List Obj:=[oe,oG (tM 16 0) "Cursor.__init__",NF,NG,oe,ol,oS 361 ["self"],oe,oG (tM 16 1) "Cursor.is_done",NH,NI,NJ,oe,ol,oS 369 ["self","ahead","spot"],oe,oG (tM 16 2) "Cursor.peek",NK,NL,oe,ol,oS 378 ["self","code"],oe,oG (tM 16 3) "Cursor.take",NM,NN,oe,ol,oS 386 ["self","word"],oe]
def Tr (P:Params):List Obj:=[oG (tM 16 4) "Cursor.starts",NO,NP,oe,ol,oS 394 ["self","word"],oe,oG (tM 16 5) "Cursor.skip",NQ,NR,oe,ol,oS 402 ["self","code"],oe,oG (tM 16 6) "Cursor.skip_white",NS,NT,oe,ol,oS 410 ["self","first"],oe,oG (tM 16 7) "Cursor.take_regular",NU,NW,oe,ol,oS 418 ["self"],oe,oG (tM 16 8) "Cursor.skip_line_end",NX]
def Ts (P:Params):List Obj:=[NY,oe,ol,oS 425 ["self"],oe,oG (tM 16 9) "Cursor.take_line",oC "take_line" "Cursor.take_line" 422 91 1 181 426,oF (tM 16 9) "Cursor.take_line" .none mT (.ref 186),oe,ol,oS 432 ["self","first","number"],oe,oG (tM 16 10) "Cursor.number",NZ,N0,oe,ol,oS 441 ["self","word","first"],oe,oG (tM 16 11) "Cursor.find",N5,N6,oe,ol,oS 450 ["self","word"],oe,oG (tM 16 12) "Cursor.find_last",N7,N8,oS 455 ["at","data","end"]]
def Tt (P:Params):List Obj:=[N9 P,Oa,oX lE [(.str "__dict__" 459),(.ref 211),lF,lH],oX lE [(.str "__weakref__" 461),(.ref 211),j6,.none],oX vh [(.ref 211),(.ref 211),(.ref 211)],oX u7 [vi,(.ref 211)],oe,vj,gG P gT (16) ([kv "__module__" 485 zx,kv "__qualname__" 487 (.str "Decimal" 486),kv "__firstlineno__" 489 (.int 115 488),kv "__init__" 498 (.ref 229),kv "plus" 506 (.ref 236),kv "minus" 514 (.ref 243),kv "times" 523 (.ref 250),kv "negated" 530 (.ref 257),kv "compared" 538 (.ref 264),kv "is_whole" 545 (.ref 271),kv "floor" 552 (.ref 278),kv "rounded" 560 (.ref 285),kv "told" 567 (.ref 292),kv "text" 575 (.ref 299),kv "least_text" 582 (.ref 306),kv "__static_attributes__" 585 (.ref 307)]),oe,oL [117,4,228,124,4,235,127,4,242,130,4,249,134,4,256,137,4,263,140,4,270,143,4,277,146,4,284,149,4,291,152,4,298,159,4,305],oD "Decimal" 480 115 219 483,uv [(some (.ref 221)),(some (.ref 3)),(some (.ref 218)),none,(some zx),none,(some (.ref 0))],oe,ol,oS 493 ["self","top","places"],oe,oG (tM 23 0) "Decimal.__init__",oC "__init__" "Decimal.__init__" 490 117 3 223 496,oF (tM 23 0) "Decimal.__init__" .none zx (.ref 228),oe,ol,oS 502 ["self","other"],oe,oG (tM 23 1) "Decimal.plus",oC "plus" "Decimal.plus" 499 124 2 230 504,oF (tM 23 1) "Decimal.plus" .none zx (.ref 235),oe,ol,oS 510 ["self","other"]]
def Tu (_P:Params):List Obj:=[oe,oG (tM 23 2) "Decimal.minus",oC "minus" "Decimal.minus" 507 127 2 237 512,oF (tM 23 2) "Decimal.minus" .none zx (.ref 242),oe,ol,oS 518 ["self","other","factor"],oe,oG (tM 23 3) "Decimal.times",oC "times" "Decimal.times" 515 130 2 244 521,oF (tM 23 3) "Decimal.times" .none zx (.ref 249),oe,ol,oS 527 ["self"],oe,oG (tM 23 4) "Decimal.negated",oC "negated" "Decimal.negated" 524 134 1 251 528,oF (tM 23 4) "Decimal.negated" .none zx (.ref 256),oe,ol,oS 534 ["self","other"],oe,oG (tM 23 5) "Decimal.compared",oC "compared" "Decimal.compared" 531 137 2 258 536,oF (tM 23 5) "Decimal.compared" .none zx (.ref 263),oe,ol,oS 542 ["self"],oe,oG (tM 23 6) "Decimal.is_whole"]
def Tv (_P:Params):List Obj:=[oC "is_whole" "Decimal.is_whole" 539 140 1 265 543,oF (tM 23 6) "Decimal.is_whole" .none zx (.ref 270),oe,ol,oS 549 ["self"],oe,oG (tM 23 7) "Decimal.floor",oC "floor" "Decimal.floor" 546 143 1 272 550,oF (tM 23 7) "Decimal.floor" .none zx (.ref 277),oe,ol,oS 556 ["self","places"],oe,oG (tM 23 8) "Decimal.rounded",oC "rounded" "Decimal.rounded" 553 146 2 279 558,oF (tM 23 8) "Decimal.rounded" .none zx (.ref 284),oe,ol,oS 564 ["self"],oe,oG (tM 23 9) "Decimal.told",oC "told" "Decimal.told" 561 149 1 286 565,oF (tM 23 9) "Decimal.told" .none zx (.ref 291),oe,ol,oS 571 ["self","numerals"],oe,oG (tM 23 10) "Decimal.text",oC "text" "Decimal.text" 568 152 1 293 573,oF (tM 23 10) "Decimal.text" .none zx (.ref 298)]
def Rc (P:Params):List Obj:=[oe,ol,oS 579 ["self"],oe,oG (tM 23 11) "Decimal.least_text",oC "least_text" "Decimal.least_text" 576 159 1 300 580,oF (tM 23 11) "Decimal.least_text" .none zx (.ref 305),oS 583 ["places","top"],Ob P,Oc,oX lE [(.str "__dict__" 586),(.ref 309),lF,lH],oX lE [(.str "__weakref__" 588),(.ref 309),j6,.none],oX vh [(.ref 309),(.ref 309),(.ref 309)],oX u7 [vi,(.ref 309)],oe,ol,oS 596 ["number"],oe,oG (tF 24) "sign_text",oc "sign_text" 593 161 1 314 597,oF (tF 24) "sign_text" .none zx (.ref 319),oe,ol,oS 603 ["value"],oe,oG (tF 25) "decimal_of",oc "decimal_of" 600 163 1 321 604,oF (tF 25) "decimal_of" .none zx (.ref 326),oe,ol]
def Rd (P:Params):List Obj:=[oS 610 ["octets","begun","top","numerals","places","code"],oe,oG (tF 26) "read_decimal",Od,Oe,oe,vj,gG P gT (5) ([kv "__module__" 630 ji,kv "__qualname__" 632 (.str "Name" 631),kv "__firstlineno__" 634 (.int 193 633),kv "__init__" 642 (.ref 348),kv "__static_attributes__" 644 (.ref 349)]),oe,oL [195,4,347],oD "Name" 625 193 338 628,uv [(some (.ref 340)),(some (.ref 3)),(some (.ref 337)),none,(some ji),none,(some (.ref 0))],oe,ol,oS 638 ["self","text"],oe,oG (tM 29 0) "Name.__init__",Og,Oh,oS 643 ["text"],Oi P,Oj,oX lE [(.str "__dict__" 645),(.ref 351),lF,lH],oX lE [(.str "__weakref__" 647),(.ref 351),j6,.none],oX vh [(.ref 351),(.ref 351),(.ref 351)],oX u7 [vi,(.ref 351)],oe,vj,gG P gT (5) ([kv "__module__" 659 ji,kv "__qualname__" 661 (.str "String" 660),kv "__firstlineno__" 663 (.int 197 662),kv "__init__" 672 (.ref 370),kv "__static_attributes__" 675 (.ref 371)]),oe]
def Re (P:Params):List Obj:=[oL [199,4,369],oD "String" 654 197 359 657,uv [(some (.ref 361)),(some (.ref 3)),(some (.ref 358)),none,(some ji),none,(some (.ref 0))],Ol,oe,ol,oS 667 ["self","octets","is_hex"],oe,oG (tM 30 0) "String.__init__",Om,On,oS 673 ["is_hex","octets"],Oo P,Op,oX lE [(.str "__dict__" 676),(.ref 373),lF,lH],oX lE [(.str "__weakref__" 678),(.ref 373),j6,.none],oX vh [(.ref 373),(.ref 373),(.ref 373)],oX u7 [vi,(.ref 373)],oe,vj,gG P gT (5) ([kv "__module__" 690 ji,kv "__qualname__" 692 (.str "Stream" 691),kv "__firstlineno__" 694 (.int 202 693),kv "__init__" 703 (.ref 391),kv "__static_attributes__" 706 (.ref 392)]),oe,oL [204,4,390],oD "Stream" 685 202 381 688,uv [(some (.ref 383)),(some (.ref 3)),(some (.ref 380)),none,(some ji),none,(some (.ref 0))],oe,ol,oS 698 ["self","head","octets"],oe,oG (tM 31 0) "Stream.__init__"]
def Rf (P:Params):List Obj:=[Oq,Os,oS 704 ["head","octets"],Ot P,Ou,oX lE [(.str "__dict__" 707),(.ref 394),lF,lH],oX lE [(.str "__weakref__" 709),(.ref 394),j6,.none],oX vh [(.ref 394),(.ref 394),(.ref 394)],oX u7 [vi,(.ref 394)],oe,vj,gG P gT (6) ([kv "__module__" 721 ji,kv "__qualname__" 723 (.str "Reference" 722),kv "__firstlineno__" 725 (.int 207 724),kv "__init__" 734 (.ref 412),kv "pair" 741 (.ref 419),kv "__static_attributes__" 744 (.ref 420)]),oe,oL [209,4,411,213,4,418],oD "Reference" 716 207 402 719,uv [(some (.ref 404)),(some (.ref 3)),(some (.ref 401)),none,(some ji),none,(some (.ref 0))],oe,ol,oS 729 ["self","number","generation"],oe,oG (tM 32 0) "Reference.__init__",oC "__init__" "Reference.__init__" 726 209 3 406 732,oF (tM 32 0) "Reference.__init__" .none ji (.ref 411),oe,ol,oS 738 ["self"],oe,oG (tM 32 1) "Reference.pair",oC "pair" "Reference.pair" 735 213 1 413 739,oF (tM 32 1) "Reference.pair" .none ji (.ref 418)]
def Rg (P:Params):List Obj:=[oS 742 ["generation","number"],Ov P,Ow,oX lE [(.str "__dict__" 745),(.ref 422),lF,lH],oX lE [(.str "__weakref__" 747),(.ref 422),j6,.none],oX vh [(.ref 422),(.ref 422),(.ref 422)],oX u7 [vi,(.ref 422)],oe,ol,oS 755 ["value"],oe,oG (tF 33) "kind_of",Ox,Oy,oe,ol,oS 762 ["kind","value"],oe,oG (tF 34) "told_plain",Oz,OA,oe,ol,oG (tF 35) "told",OB,OC,oe,vj,gG P gT (7) ([kv "__module__" 781 ji,kv "__qualname__" 783 (.str "Lookup" 782),kv "__firstlineno__" 785 (.int 261 784),kv "__init__" 794 (.ref 460),kv "fetch" 806 (.ref 467),kv "get" 815 (.ref 474),kv "__static_attributes__" 818 (.ref 475)]),oe]
def Rh (P:Params):List Obj:=[oL [263,4,459,267,4,466,278,4,473],oD "Lookup" 776 261 449 779,uv [(some (.ref 451)),(some (.ref 3)),(some (.ref 448)),none,(some ji),none,(some (.ref 0))],OD,oe,ol,oS 789 ["self","table","trailer"],oe,oG (tM 37 0) "Lookup.__init__",OE,OF,oe,ol,oS 798 ["self","value","here","hop","generation","found"],oe,oG (tM 37 1) "Lookup.fetch",OG,OH,oe,ol,oS 810 ["self","head","key"],oe,oG (tM 37 2) "Lookup.get",OI,OJ,oS 816 ["table","trailer"],OK P,OL,oX lE [(.str "__dict__" 819),(.ref 477),lF,lH],oX lE [(.str "__weakref__" 821),(.ref 477),j6,.none]]
def Ri (P:Params):List Obj:=[oX vh [(.ref 477),(.ref 477),(.ref 477)],oX u7 [vi,(.ref 477)],oT 0 [(.ref 477)],vj,gG P gT (10) ([kv "__module__" 833 ji,kv "__qualname__" 835 (.str "Shelf" 834),kv "__firstlineno__" 837 (.int 280 836),kv "put" 847 (.ref 495),kv "add" 855 (.ref 502),kv "drop" 863 (.ref 509),kv "numbers" 870 (.ref 516),kv "root" 877 (.ref 523),kv "told" 883 (.ref 528),kv "__static_attributes__" 884 (.ref 529)]),oe,oL [282,4,494,285,4,501,288,4,508,292,4,515,295,4,522,298,4,527],oD "Shelf" 828 280 485 831,uv [(some (.ref 487)),(some (.ref 3)),(some (.ref 484)),none,(some ji),none,(some (.ref 0))],oe,ol,oS 841 ["self","number","generation","value"],oe,oG (tM 38 0) "Shelf.put",oC "put" "Shelf.put" 838 282 4 489 845,oF (tM 38 0) "Shelf.put" .none ji (.ref 494),oe,ol,oS 851 ["self","value"],oe,oG (tM 38 1) "Shelf.add",oC "add" "Shelf.add" 848 285 2 496 853,oF (tM 38 1) "Shelf.add" .none ji (.ref 501),oe,ol,oS 859 ["self","number"],oe,oG (tM 38 2) "Shelf.drop",oC "drop" "Shelf.drop" 856 288 2 503 861,oF (tM 38 2) "Shelf.drop" .none ji (.ref 508)]
def Rj (P:Params):List Obj:=[oe,ol,oS 867 ["self"],oe,oG (tM 38 3) "Shelf.numbers",oC "numbers" "Shelf.numbers" 864 292 1 510 868,oF (tM 38 3) "Shelf.numbers" .none ji (.ref 515),oe,ol,oS 874 ["self"],oe,oG (tM 38 4) "Shelf.root",oC "root" "Shelf.root" 871 295 1 517 875,oF (tM 38 4) "Shelf.root" .none ji (.ref 522),oe,ol,oG (tM 38 5) "Shelf.told",oX nA [(.str "told" 878),(.str "Shelf.told" 879),(.str "/claim/cut.py" 880),(.int 298 0),(.int 1 0),(.int 0 0),(.int 0 0),(.int 3 0),(.ref 524),j5,(.int 181 0),(.ref 525),.none,.none,.none,(.ref 526),(.int 881 0),(.int 298 0),(.str "/claim/cut.py" 882)],oF (tM 38 5) "Shelf.told" .none ji (.ref 527),oe,OM P,ON,oX vh [(.ref 531),(.ref 531),(.ref 531)],oX u7 [vi,(.ref 531)],Mi,oe,ol,oS 912 ["code"],oe,oG (tF 48) "hex_worth"]
def Rk (P:Params):List Obj:=[oc "hex_worth" 909 310 1 535 913,oF (tF 48) "hex_worth" .none nD (.ref 540),oe,ol,oS 919 ["code"],oe,oG (tF 49) "plain_escape",oc "plain_escape" 916 318 1 542 920,oF (tF 49) "plain_escape" .none nD (.ref 547),OO,oe,ol,oS 928 ["octets","at","signs","place","code","high","low"],oe,oG (tF 50) "name_text",OP,OQ,oe,ol,oS 941 ["cursor","first","code","taken"],oe,oG (tF 51) "octal",oc "octal" 938 346 2 557 945,oF (tF 51) "octal" .none nD (.ref 562),oe,ol,oS 951 ["cursor","code"],oe,oG (tF 52) "escaped_codes",oc "escaped_codes" 948 353 1 564 953]
def Rl (P:Params):List Obj:=[oF (tF 52) "escaped_codes" .none nD (.ref 569),oe,ol,oS 959 ["cursor","opening","codes","depth","code"],oe,oG (tF 53) "literal",oc "literal" 956 362 1 571 964,oF (tF 53) "literal" .none nD (.ref 576),oe,ol,oG (tF 54) "hex_string",oX nA [(.str "hex_string" 967),(.str "hex_string" 968),(.str "/claim/cut.py" 969),(.int 382 0),(.int 1 0),(.int 0 0),(.int 0 0),(.int 3 0),(.ref 578),j5,(.int 181 0),(.ref 579),.none,.none,.none,(.ref 580),(.int 970 0),(.int 382 0),(.str "/claim/cut.py" 971)],oF (tF 54) "hex_string" .none nD (.ref 581),oe,ol,oS 976 ["cursor","at","run","number"],oe,oG (tF 55) "run_token",OR,OS,oe,ol,oS 986 ["cursor","code","at"],oe,oG (tF 56) "delimited_token",OT,OU,oe,ol,oS 995 ["cursor","at","code"]]
def Rm (P:Params):List Obj:=[oe,oG (tF 57) "next_token",OV,OW,oe,ol,oS 1004 ["token","sign"],oe,oG (tF 58) "is_sign",OX,OY,oe,vj,gG P gT (6) ([kv "__module__" 1020 nB,kv "__qualname__" 1022 (.str "Frame" 1021),kv "__firstlineno__" 1024 (.int 436 1023),kv "__init__" 1032 (.ref 624),kv "wants_key" 1039 (.ref 631),kv "__static_attributes__" 1042 (.ref 632)]),oe,oL [438,4,623,442,4,630],oD "Frame" 1015 436 614 1018,uv [(some (.ref 616)),(some (.ref 3)),(some (.ref 613)),none,(some nB),none,(some (.ref 0))],oe,ol,oS 1028 ["self","mark"],oe,oG (tM 61 0) "Frame.__init__",OZ,O0,oe,ol,oS 1036 ["self"],oe,oG (tM 61 1) "Frame.wants_key"]
def Ro (P:Params):List Obj:=[O1,O2,oS 1040 ["items","mark"],O3 P,O4,oX lE [(.str "__dict__" 1043),(.ref 634),lF,lH],oX lE [(.str "__weakref__" 1045),(.ref 634),j6,.none],oX vh [(.ref 634),(.ref 634),(.ref 634)],oX u7 [vi,(.ref 634)],oe,ol,oS 1053 ["value"],oe,oG (tF 62) "is_whole",O5,O6,oe,ol,oS 1060 ["cursor","number","probe","generation"],oe,oG (tF 63) "take_reference",O7,O8,oe,ol,oS 1070 ["worth","at"],oe,oG (tF 64) "word_value",oc "word_value" 1067 455 2 653 1072,oF (tF 64) "word_value" .none nB (.ref 658)]
def Rp (P:Params):List Obj:=[oe,ol,oS 1078 ["cursor","token","lets_references","kind","worth","at"],oe,oG (tF 65) "plain_value",O9,Pa,oe,ol,oG (tF 66) "dict_of",Pb,Pc,oe,ol,oS 1096 ["frames","worth","at","opening","frame"],oe,oG (tF 67) "close_frame",Pd,Pe,Pf,oe,ol,oS 1107 ["cursor","token","lets_references","frames","kind","worth","at","is_opening","value"],oe,oG (tF 68) "object_from",Pg,Ph,oe,ol,oS 1122 ["cursor"]]
def Rq (P:Params):List Obj:=[oe,oG (tF 69) "read_object",Pi,Pj,oe,ol,oS 1129 ["head","shelf","value"],oe,oG (tF 70) "length_of",Pk,Pl,oe,ol,oS 1138 ["octets"],oe,oG (tF 71) "without_line_end",oc "without_line_end" 1135 522 1 701 1139,oF (tF 71) "without_line_end" .none nB (.ref 706),Pm,oe,ol,oS 1145 ["cursor","head","shelf","begun","length","probe","end"],oe,oG (tF 72) "read_stream",Pn,Po,oe,ol,oS 1158 ["cursor","word","probe"],oe]
def Rr (P:Params):List Obj:=[oG (tF 73) "skip_word",Pp,Pq,oe,ol,oS 1167 ["cursor","kind","worth","at"],oe,oG (tF 74) "take_number",Pr,Ps,Pt,oe,ol,oS 1177 ["cursor","shelf","number","generation","kind","worth","at","value"],oe,oG (tF 75) "read_indirect",Pu,Pv,oe,vj,gG P gT (6) ([kv "__module__" 1205 qk,kv "__qualname__" 1207 (.str "Entry" 1206),kv "__firstlineno__" 1209 (.int 571 1208),kv "__init__" 1219 (.ref 751),kv "told" 1226 (.ref 758),kv "__static_attributes__" 1230 (.ref 759)]),oe,oL [573,4,750,578,4,757],oD "Entry" 1200 571 741 1203,uv [(some (.ref 743)),(some (.ref 3)),(some (.ref 740)),none,(some qk),none,(some (.ref 0))],oe,ol,oS 1213 ["self","way","one","two"],oe,oG (tM 81 0) "Entry.__init__"]
def Rs (P:Params):List Obj:=[Pw,Px,oe,ol,oS 1223 ["self"],oe,oG (tM 81 1) "Entry.told",Py,Pz,oS 1227 ["one","two","way"],PA P,PB,oX lE [(.str "__dict__" 1231),(.ref 761),lF,lH],oX lE [(.str "__weakref__" 1233),(.ref 761),j6,.none],oX vh [(.ref 761),(.ref 761),(.ref 761)],oX u7 [vi,(.ref 761)],oe,ol,oS 1241 ["cursor","count","total","turn"],oe,oG (tF 82) "take_figures",PC,PD,oe,ol,oS 1251 ["cursor"],oe,oG (tF 83) "take_blank",PE,PF]
def Rt (P:Params):List Obj:=[oe,ol,oS 1258 ["cursor","end"],oe,oG (tF 84) "take_entry_end",PG,PH,oe,ol,oS 1266 ["cursor","one","place","two","letter"],oe,oG (tF 85) "take_entry",PI,PJ,oe,ol,oS 1277 ["cursor","place","found"],oe,oG (tF 86) "take_count",PK,PL,oe,ol,oS 1286 ["cursor","entries","first","count","number"],oe,oG (tF 87) "take_subsection",PM,PN,oe,ol]
def Ru (P:Params):List Obj:=[oS 1297 ["cursor","place","found","fault"],oe,oG (tF 88) "take_trailer",PO,PP,oe,ol,oS 1307 ["cursor","entries"],oe,oG (tF 89) "read_classic",PQ,PR,oe,ol,oS 1315 ["tables","found","table","number"],oe,oG (tF 90) "overlaid",PS,PT,oe,ol,oS 1325 ["data","cursor","place","begun","found"],oe,oG (tF 91) "find_start",PU,PX,oe,ol,oS 1336 ["offset"],oe]
def Rv (P:Params):List Obj:=[oG (tF 92) "tail",PY,PZ,oe,ol,oS 1363 ["code"],oe,oG (tF 101) "figure_worth",oc "figure_worth" 1360 681 1 843 1364,oF (tF 101) "figure_worth" .none Fj (.ref 848),oe,ol,oG (tF 102) "hex_decoded",oX nA [(.str "hex_decoded" 1367),(.str "hex_decoded" 1368),(.str "/claim/cut.py" 1369),(.int 689 0),(.int 1 0),(.int 0 0),(.int 0 0),(.int 3 0),(.ref 850),j5,(.int 181 0),(.ref 851),.none,.none,.none,(.ref 852),(.int 1370 0),(.int 689 0),(.str "/claim/cut.py" 1371)],oF (tF 102) "hex_decoded" .none Fj (.ref 853),oe,ol,oS 1376 ["signs","at","missing","total","sign","octets","turn"],oe,oG (tF 103) "octets_of_group",oc "octets_of_group" 1373 702 2 855 1383,oF (tF 103) "octets_of_group" .none Fj (.ref 860),oe,ol,oS 1389 ["data","at","here"],oe,oG (tF 104) "is_end_at",oc "is_end_at" 1386 714 2 862 1392,oF (tF 104) "is_end_at" .none Fj (.ref 867),oe]
def Rw (P:Params):List Obj:=[ol,oS 1398 ["data","octets","signs","last","at","code"],oe,oG (tF 105) "base85_decoded",oc "base85_decoded" 1395 721 1 869 1404,oF (tF 105) "base85_decoded" .none Fj (.ref 874),oe,ol,oS 1410 ["data","octets","at","length","row"],oe,oG (tF 106) "run_decoded",oc "run_decoded" 1407 743 1 876 1415,oF (tF 106) "run_decoded" .none Fj (.ref 881),oe,ol,oS 1425 ["value","count"],oe,oG (tF 109) "low_bits",oc "low_bits" 1422 761 2 883 1427,oF (tF 109) "low_bits" .none Bm (.ref 888),oe,vj,gG P gT (10) ([kv "__module__" 1437 Bm,kv "__qualname__" 1439 (.str "BitsIn" 1438),kv "__firstlineno__" 1441 (.int 763 1440),kv "__init__" 1451 (.ref 904),kv "left" 1458 (.ref 911),kv "need" 1466 (.ref 918),kv "take" 1475 (.ref 925),kv "align" 1482 (.ref 932),kv "octets" 1490 (.ref 939),kv "__static_attributes__" 1495 (.ref 940)]),oe,oL [765,4,903,771,4,910,774,4,917,778,4,924,789,4,931,793,4,938],oD "BitsIn" 1432 763 893 1435,uv [(some (.ref 895)),(some (.ref 3)),(some (.ref 892)),none,(some Bm),none,(some (.ref 0))],oT 0 [(.int 0 1442)],oe,ol]
def Rx (_P:Params):List Obj:=[oS 1446 ["self","data","at"],oe,oG (tM 110 0) "BitsIn.__init__",oC "__init__" "BitsIn.__init__" 1443 765 3 898 1449,oF (tM 110 0) "BitsIn.__init__" (.ref 897) Bm (.ref 903),oe,ol,oS 1455 ["self"],oe,oG (tM 110 1) "BitsIn.left",oC "left" "BitsIn.left" 1452 771 1 905 1456,oF (tM 110 1) "BitsIn.left" .none Bm (.ref 910),oe,ol,oS 1462 ["self","count"],oe,oG (tM 110 2) "BitsIn.need",oC "need" "BitsIn.need" 1459 774 2 912 1464,oF (tM 110 2) "BitsIn.need" .none Bm (.ref 917),oe,ol,oS 1470 ["self","count","value"],oe,oG (tM 110 3) "BitsIn.take",oC "take" "BitsIn.take" 1467 778 2 919 1473,oF (tM 110 3) "BitsIn.take" .none Bm (.ref 924),oe,ol,oS 1479 ["self"],oe]
def Ry (P:Params):List Obj:=[oG (tM 110 4) "BitsIn.align",oC "align" "BitsIn.align" 1476 789 1 926 1480,oF (tM 110 4) "BitsIn.align" .none Bm (.ref 931),oe,ol,oS 1486 ["self","count"],oe,oG (tM 110 5) "BitsIn.octets",oC "octets" "BitsIn.octets" 1483 793 2 933 1488,oF (tM 110 5) "BitsIn.octets" .none Bm (.ref 938),oS 1491 ["at","count","data","held"],gG P gT (4) ([kv "__module__" 1437 Bm,kv "__firstlineno__" 1441 (.int 763 1440),kv "__init__" 1451 (.ref 904),kv "left" 1458 (.ref 911),kv "need" 1466 (.ref 918),kv "take" 1475 (.ref 925),kv "align" 1482 (.ref 932),kv "octets" 1490 (.ref 939),kv "__static_attributes__" 1495 (.ref 940),kv "__dict__" 1497 (.ref 943),kv "__weakref__" 1499 (.ref 944),kv "__doc__" 1500 .none]),oK "BitsIn" [jB] [(.ref 942),jB] 941 [] [none,none,(some (.str "BitsIn" 1430)),(some (.str "BitsIn" 1438)),(some zw),(some j5)],oX lE [(.str "__dict__" 1496),(.ref 942),lF,lH],oX lE [(.str "__weakref__" 1498),(.ref 942),j6,.none],oX vh [(.ref 942),(.ref 942),(.ref 942)],oX u7 [vi,(.ref 942)],oe,vj,gG P gT (8) ([kv "__module__" 1510 Bm,kv "__qualname__" 1512 (.str "HighBitsIn" 1511),kv "__firstlineno__" 1514 (.int 798 1513),kv "__init__" 1522 (.ref 960),kv "left" 1529 (.ref 967),kv "take" 1538 (.ref 974),kv "align" 1545 (.ref 981),kv "__static_attributes__" 1550 (.ref 982)]),oe,oL [800,4,959,806,4,966,809,4,973,821,4,980],oD "HighBitsIn" 1505 798 950 1508,uv [(some (.ref 952)),(some (.ref 3)),(some (.ref 949)),none,(some Bm),none,(some (.ref 0))],oe,ol,oS 1518 ["self","data"],oe,oG (tM 111 0) "HighBitsIn.__init__",oC "__init__" "HighBitsIn.__init__" 1515 800 2 954 1520]
def Rz (P:Params):List Obj:=[oF (tM 111 0) "HighBitsIn.__init__" .none Bm (.ref 959),oe,ol,oS 1526 ["self"],oe,oG (tM 111 1) "HighBitsIn.left",oC "left" "HighBitsIn.left" 1523 806 1 961 1527,oF (tM 111 1) "HighBitsIn.left" .none Bm (.ref 966),oe,ol,oS 1533 ["self","count","value"],oe,oG (tM 111 2) "HighBitsIn.take",oC "take" "HighBitsIn.take" 1530 809 2 968 1536,oF (tM 111 2) "HighBitsIn.take" .none Bm (.ref 973),oe,ol,oS 1542 ["self"],oe,oG (tM 111 3) "HighBitsIn.align",oC "align" "HighBitsIn.align" 1539 821 1 975 1543,oF (tM 111 3) "HighBitsIn.align" .none Bm (.ref 980),oS 1546 ["at","count","data","held"],gG P gT (4) ([kv "__module__" 1510 Bm,kv "__firstlineno__" 1514 (.int 798 1513),kv "__init__" 1522 (.ref 960),kv "left" 1529 (.ref 967),kv "take" 1538 (.ref 974),kv "align" 1545 (.ref 981),kv "__static_attributes__" 1550 (.ref 982),kv "__dict__" 1552 (.ref 985),kv "__weakref__" 1554 (.ref 986),kv "__doc__" 1555 .none]),oK "HighBitsIn" [jB] [(.ref 984),jB] 983 [] [none,none,(some (.str "HighBitsIn" 1503)),(some (.str "HighBitsIn" 1511)),(some zw),(some j5)],oX lE [(.str "__dict__" 1551),(.ref 984),lF,lH],oX lE [(.str "__weakref__" 1553),(.ref 984),j6,.none],oX vh [(.ref 984),(.ref 984),(.ref 984)],oX u7 [vi,(.ref 984)],oe]
def RA (_P:Params):List Obj:=[ol,oS 1563 ["lengths"],oe,oG (tF 113) "greatest_length",oc "greatest_length" 1560 825 1 989 1564,oF (tF 113) "greatest_length" .none vm (.ref 994),oe,ol,oS 1570 ["lengths","tally","length"],oe,oG (tF 114) "tally_of",oc "tally_of" 1567 827 1 996 1573,oF (tF 114) "tally_of" .none vm (.ref 1001),oe,ol,oS 1579 ["lengths","room","taken"],oe,oG (tF 115) "room_left",oc "room_left" 1576 833 1 1003 1582,oF (tF 115) "room_left" .none vm (.ref 1008),oe,ol,oS 1588 ["lengths"],oe,oG (tF 116) "is_full",oc "is_full" 1585 838 1 1010 1589,oF (tF 116) "is_full" .none vm (.ref 1015),oe,ol,oS 1595 ["lengths"]]
def RB (P:Params):List Obj:=[oe,oG (tF 117) "is_over",oc "is_over" 1592 840 1 1017 1596,oF (tF 117) "is_over" .none vm (.ref 1022),oe,ol,oG (tF 118) "symbols_of",oX nA [(.str "symbols_of" 1599),(.str "symbols_of" 1600),(.str "/claim/cut.py" 1601),(.int 842 0),(.int 1 0),(.int 0 0),(.int 0 0),(.int 3 0),(.ref 1024),j5,(.int 181 0),(.ref 1025),.none,.none,.none,(.ref 1026),(.int 1602 0),(.int 842 0),(.str "/claim/cut.py" 1603)],oF (tF 118) "symbols_of" .none vm (.ref 1027),oe,vj,gG P gT (6) ([kv "__module__" 1612 vm,kv "__qualname__" 1614 (.str "Decoder" 1613),kv "__firstlineno__" 1616 (.int 850 1615),kv "__init__" 1624 (.ref 1042),kv "read" 1636 (.ref 1049),kv "__static_attributes__" 1639 (.ref 1050)]),oe,oL [852,4,1041,858,4,1048],oD "Decoder" 1607 850 1032 1610,uv [(some (.ref 1034)),(some (.ref 3)),(some (.ref 1031)),none,(some vm),none,(some (.ref 0))],oe,ol,oS 1620 ["self","lengths"],oe,oG (tM 119 0) "Decoder.__init__",oC "__init__" "Decoder.__init__" 1617 852 2 1036 1622,oF (tM 119 0) "Decoder.__init__" .none vm (.ref 1041),oe,ol,oS 1628 ["self","bits","code","first","place","taken"],oe,oG (tM 119 1) "Decoder.read",oC "read" "Decoder.read" 1625 858 2 1043 1634,oF (tM 119 1) "Decoder.read" .none vm (.ref 1048)]
def RC (P:Params):List Obj:=[oS 1637 ["symbols","tally"],gG P gT (4) ([kv "__module__" 1612 vm,kv "__firstlineno__" 1616 (.int 850 1615),kv "__init__" 1624 (.ref 1042),kv "read" 1636 (.ref 1049),kv "__static_attributes__" 1639 (.ref 1050),kv "__dict__" 1641 (.ref 1053),kv "__weakref__" 1643 (.ref 1054),kv "__doc__" 1644 .none]),oK "Decoder" [jB] [(.ref 1052),jB] 1051 [] [none,none,(some (.str "Decoder" 1605)),(some (.str "Decoder" 1613)),(some zw),(some j5)],oX lE [(.str "__dict__" 1640),(.ref 1052),lF,lH],oX lE [(.str "__weakref__" 1642),(.ref 1052),j6,.none],oX vh [(.ref 1052),(.ref 1052),(.ref 1052)],oX u7 [vi,(.ref 1052)],oe,ol,oS 1656 ["bases","extras","base","place","extra"],oe,oG (tF 123) "length_rows",oc "length_rows" 1653 872 0 1057 1661,oF (tF 123) "length_rows" .none Be (.ref 1062),oe,ol,oS 1667 ["bases","extras","base","place","extra"],oe,oG (tF 124) "distance_rows",oc "distance_rows" 1664 882 0 1064 1672,oF (tF 124) "distance_rows" .none Be (.ref 1069),oe,ol,oS 1678 ["order","place"],oe,oG (tF 125) "length_order",oc "length_order" 1675 892 0 1071 1680,oF (tF 125) "length_order" .none Be (.ref 1076),oe,ol]
def RD (_P:Params):List Obj:=[oe,oe,oG (tF 126) "fixed_lengths",oc "fixed_lengths" 1683 900 0 1078 1686,oF (tF 126) "fixed_lengths" .none Be (.ref 1083),oe,ol,oS 1692 ["bits","symbol","lengths"],oe,oG (tF 127) "repeated",oc "repeated" 1689 902 3 1085 1695,oF (tF 127) "repeated" .none Be (.ref 1090),oe,ol,oS 1701 ["bits","literals","distances","count","small","place","decoder","lengths","symbol","length","times"],oe,oG (tF 128) "read_lengths",oc "read_lengths" 1698 910 1 1092 1712,oF (tF 128) "read_lengths" .none Be (.ref 1097),oe,ol,oS 1718 ["lengths"],oe,oG (tF 129) "is_usable",oc "is_usable" 1715 933 1 1099 1719,oF (tF 129) "is_usable" .none Be (.ref 1104),oe,ol,oS 1725 ["bits","literals","distances"],oe]
def RE (_P:Params):List Obj:=[oG (tF 130) "read_decoders",oc "read_decoders" 1722 935 1 1106 1728,oF (tF 130) "read_decoders" .none Be (.ref 1111),oe,ol,oS 1734 ["bits","literals","distances","rows","symbol","place","length"],oe,oG (tF 131) "read_part",oc "read_part" 1731 942 4 1113 1741,oF (tF 131) "read_part" .none Be (.ref 1118),oe,ol,oS 1748 ["out","part","at","length","distance","turn"],oe,oG (tF 133) "lay_part",oc "lay_part" 1745 957 3 1120 1754,oF (tF 133) "lay_part" .none Be (.ref 1125),oe,ol,oS 1760 ["bits","count"],oe,oG (tF 134) "read_stored",oc "read_stored" 1757 966 1 1127 1762,oF (tF 134) "read_stored" .none Be (.ref 1132),oe,ol,oS 1768 ["bits","way","literals","distances"],oe,oG (tF 135) "block_decoders",oc "block_decoders" 1765 972 2 1134 1772]
def RF (_P:Params):List Obj:=[oF (tF 135) "block_decoders" .none Be (.ref 1139),oe,ol,oS 1778 ["out","bits","rows","is_last","way","literals","distances","part"],oe,oG (tF 136) "inflate_into",oc "inflate_into" 1775 979 2 1141 1786,oF (tF 136) "inflate_into" .none Be (.ref 1146),oT 0 [(.int 0 1789)],oe,ol,oS 1793 ["data","at","bits","out"],oe,oG (tF 137) "inflate",oc "inflate" 1790 994 2 1149 1797,oF (tF 137) "inflate" (.ref 1148) Be (.ref 1154),oe,ol,oS 1803 ["octets","low","high","octet"],oe,oG (tF 138) "adler",oc "adler" 1800 999 1 1156 1807,oF (tF 138) "adler" .none Be (.ref 1161),oe,ol,oS 1813 ["data"],oe,oG (tF 139) "check_frame",oc "check_frame" 1810 1006 1 1163 1814,oF (tF 139) "check_frame" .none Be (.ref 1168)]
def RG (P:Params):List Obj:=[oe,ol,oS 1820 ["data","at","octets","total","octet"],oe,oG (tF 140) "check_sum",oc "check_sum" 1817 1015 3 1170 1825,oF (tF 140) "check_sum" .none Be (.ref 1175),oe,ol,oS 1831 ["data","octets","at"],oe,oG (tF 141) "zlib_decoded",oc "zlib_decoded" 1828 1023 1 1177 1834,oF (tF 141) "zlib_decoded" .none Be (.ref 1182),oe,vj,gG P gT (6) ([kv "__module__" 1850 nE,kv "__qualname__" 1852 (.str "Sizes" 1851),kv "__firstlineno__" 1854 (.int 1031 1853),kv "__init__" 1865 (.ref 1198),kv "width" 1874 (.ref 1205),kv "__static_attributes__" 1882 (.ref 1206)]),oe,oL [1033,4,1197,1042,4,1204],oD "Sizes" 1845 1031 1187 1848,uv [(some (.ref 1189)),(some (.ref 3)),(some (.ref 1186)),none,(some nE),none,(some (.ref 0))],oT 0 [(.int 8 1839),(.int 12 1841),(.int 1 1855)],oe,ol,oS 1859 ["self","bits","widest","early"],oe,oG (tM 145 0) "Sizes.__init__",oC "__init__" "Sizes.__init__" 1856 1033 4 1192 1863,oF (tM 145 0) "Sizes.__init__" (.ref 1191) nE (.ref 1197),oe]
def RH (P:Params):List Obj:=[ol,oS 1869 ["self","count","needed"],oe,oG (tM 145 1) "Sizes.width",oC "width" "Sizes.width" 1866 1042 2 1199 1872,oF (tM 145 1) "Sizes.width" .none nE (.ref 1204),oS 1875 ["bits","clear","early","end","first","full","widest"],gG P gT (4) ([kv "__module__" 1850 nE,kv "__firstlineno__" 1854 (.int 1031 1853),kv "__init__" 1865 (.ref 1198),kv "width" 1874 (.ref 1205),kv "__static_attributes__" 1882 (.ref 1206),kv "__dict__" 1884 (.ref 1209),kv "__weakref__" 1886 (.ref 1210),kv "__doc__" 1887 .none]),oK "Sizes" [jB] [(.ref 1208),jB] 1207 [] [none,none,(some (.str "Sizes" 1843)),(some (.str "Sizes" 1851)),(some zw),(some j5)],oX lE [(.str "__dict__" 1883),(.ref 1208),lF,lH],oX lE [(.str "__weakref__" 1885),(.ref 1208),j6,.none],oX vh [(.ref 1208),(.ref 1208),(.ref 1208)],oX u7 [vi,(.ref 1208)],oe,vj,gG P gT (7) ([kv "__module__" 1897 nE,kv "__qualname__" 1899 (.str "Count" 1898),kv "__firstlineno__" 1901 (.int 1045 1900),kv "__init__" 1909 (.ref 1226),kv "width" 1916 (.ref 1233),kv "passed" 1924 (.ref 1240),kv "__static_attributes__" 1928 (.ref 1241)]),oe,oL [1047,4,1225,1052,4,1232,1055,4,1239],oD "Count" 1892 1045 1216 1895,uv [(some (.ref 1218)),(some (.ref 3)),(some (.ref 1215)),none,(some nE),none,(some (.ref 0))],oe,ol,oS 1905 ["self","sizes"],oe,oG (tM 146 0) "Count.__init__",oC "__init__" "Count.__init__" 1902 1047 2 1220 1907,oF (tM 146 0) "Count.__init__" .none nE (.ref 1225),oe,ol,oS 1913 ["self"]]
def RI (P:Params):List Obj:=[oe,oG (tM 146 1) "Count.width",oC "width" "Count.width" 1910 1052 1 1227 1914,oF (tM 146 1) "Count.width" .none nE (.ref 1232),oe,ol,oS 1920 ["self","code"],oe,oG (tM 146 2) "Count.passed",oC "passed" "Count.passed" 1917 1055 2 1234 1922,oF (tM 146 2) "Count.passed" .none nE (.ref 1239),oS 1925 ["count","is_begun","sizes"],gG P gT (4) ([kv "__module__" 1897 nE,kv "__firstlineno__" 1901 (.int 1045 1900),kv "__init__" 1909 (.ref 1226),kv "width" 1916 (.ref 1233),kv "passed" 1924 (.ref 1240),kv "__static_attributes__" 1928 (.ref 1241),kv "__dict__" 1930 (.ref 1244),kv "__weakref__" 1932 (.ref 1245),kv "__doc__" 1933 .none]),oK "Count" [jB] [(.ref 1243),jB] 1242 [] [none,none,(some (.str "Count" 1890)),(some (.str "Count" 1898)),(some zw),(some j5)],oX lE [(.str "__dict__" 1929),(.ref 1243),lF,lH],oX lE [(.str "__weakref__" 1931),(.ref 1243),j6,.none],oX vh [(.ref 1243),(.ref 1243),(.ref 1243)],oX u7 [vi,(.ref 1243)],oe,ol,oS 1939 ["sizes","data","source","count","codes","code"],oe,oG (tF 147) "read_codes",oc "read_codes" 1936 1063 2 1248 1945,oF (tF 147) "read_codes" .none nE (.ref 1253),oe,ol,oS 1951 ["sizes","words","code","before","place"],oe,oG (tF 148) "word_of"]
def RJ (P:Params):List Obj:=[oc "word_of" 1948 1073 4 1255 1956,oF (tF 148) "word_of" .none nE (.ref 1260),oe,ol,oS 1962 ["sizes","codes","signs","words","before","code","word"],oe,oG (tF 149) "unpacked_codes",oc "unpacked_codes" 1959 1082 2 1262 1969,oF (tF 149) "unpacked_codes" .none nE (.ref 1267),oT 0 [(.int 1 1972)],oe,ol,oS 1976 ["data","early","sizes"],oe,oG (tF 150) "lzw_decoded",oc "lzw_decoded" 1973 1099 2 1270 1979,oF (tF 150) "lzw_decoded" (.ref 1269) nE (.ref 1275),oT 0 [(.int 1 1984),(.int 2 1985),(.int 4 1986),(.int 8 1987),(.int 16 1988)],oe,vj,gG P gT (5) ([kv "__module__" 1997 pi,kv "__qualname__" 1999 (.str "Shape" 1998),kv "__firstlineno__" 2001 (.int 1104 2000),kv "__init__" 2011 (.ref 1291),kv "__static_attributes__" 2017 (.ref 1292)]),oe,oL [1106,4,1290],oD "Shape" 1992 1104 1281 1995,uv [(some (.ref 1283)),(some (.ref 3)),(some (.ref 1280)),none,(some pi),none,(some (.ref 0))],oe,ol,oS 2005 ["self","colors","bits","columns"],oe,oG (tM 153 0) "Shape.__init__"]
def RK (P:Params):List Obj:=[oC "__init__" "Shape.__init__" 2002 1106 4 1285 2009,oF (tM 153 0) "Shape.__init__" .none pi (.ref 1290),oS 2012 ["bits","colors","columns","pixel_octets","row_octets"],gG P gT (4) ([kv "__module__" 1997 pi,kv "__firstlineno__" 2001 (.int 1104 2000),kv "__init__" 2011 (.ref 1291),kv "__static_attributes__" 2017 (.ref 1292),kv "__dict__" 2019 (.ref 1295),kv "__weakref__" 2021 (.ref 1296),kv "__doc__" 2022 .none]),oK "Shape" [jB] [(.ref 1294),jB] 1293 [] [none,none,(some (.str "Shape" 1990)),(some (.str "Shape" 1998)),(some zw),(some j5)],oX lE [(.str "__dict__" 2018),(.ref 1294),lF,lH],oX lE [(.str "__weakref__" 2020),(.ref 1294),j6,.none],oX vh [(.ref 1294),(.ref 1294),(.ref 1294)],oX u7 [vi,(.ref 1294)],oe,ol,oG (tF 154) "rows_of_octets",oX nA [(.str "rows_of_octets" 2025),(.str "rows_of_octets" 2026),(.str "/claim/cut.py" 2027),(.int 1112 0),(.int 2 0),(.int 0 0),(.int 0 0),(.int 3 0),(.ref 1299),j5,(.int 181 0),(.ref 1300),.none,.none,.none,(.ref 1301),(.int 2028 0),(.int 1112 0),(.str "/claim/cut.py" 2029)],oF (tF 154) "rows_of_octets" .none pi (.ref 1302),oe,ol,oG (tF 155) "samples_of",oX nA [(.str "samples_of" 2031),(.str "samples_of" 2032),(.str "/claim/cut.py" 2033),(.int 1114 0),(.int 2 0),(.int 0 0),(.int 0 0),(.int 3 0),(.ref 1304),j5,(.int 181 0),(.ref 1305),.none,.none,.none,(.ref 1306),(.int 2034 0),(.int 1114 0),(.str "/claim/cut.py" 2035)],oF (tF 155) "samples_of" .none pi (.ref 1307),oe,ol,oS 2040 ["levels","bits","octets","sample","count","at","total"],oe,oG (tF 156) "octets_of",oc "octets_of" 2037 1122 2 1309 2047,oF (tF 156) "octets_of" .none pi (.ref 1314),oe,ol,oS 2053 ["row","shape","is_undone","levels","later","at","octets"],oe]
def RL (_P:Params):List Obj:=[oG (tF 157) "turned_row",oc "turned_row" 2050 1136 3 1316 2060,oF (tF 157) "turned_row" .none pi (.ref 1321),oe,ol,oS 2066 ["octets","shape","found","row"],oe,oG (tF 158) "tiff_undone",oc "tiff_undone" 2063 1146 2 1323 2070,oF (tF 158) "tiff_undone" .none pi (.ref 1328),oe,ol,oS 2076 ["a","b","c","guess"],oe,oG (tF 159) "paeth",oc "paeth" 2073 1151 3 1330 2080,oF (tF 159) "paeth" .none pi (.ref 1335),oe,ol,oS 2086 ["row","above","at","step","way","left","up"],oe,oG (tF 160) "guess_at",oc "guess_at" 2083 1156 5 1337 2093,oF (tF 160) "guess_at" .none pi (.ref 1342),oe,ol,oS 2099 ["octets","shape","found","above","at","way","row","octet"],oe,oG (tF 161) "png_undone",oc "png_undone" 2096 1168 2 1344 2107]
def RM (_P:Params):List Obj:=[oF (tF 161) "png_undone" .none pi (.ref 1349),oe,ol,oS 2113 ["parms","key","default","value"],oe,oG (tF 162) "parm",oc "parm" 2110 1182 3 1351 2117,oF (tF 162) "parm" .none pi (.ref 1356),oe,ol,oS 2123 ["parms","bits"],oe,oG (tF 163) "shape_of",oc "shape_of" 2120 1189 1 1358 2125,oF (tF 163) "shape_of" .none pi (.ref 1363),oe,ol,oS 2131 ["octets","parms","way"],oe,oG (tF 164) "unpredicted",oc "unpredicted" 2128 1194 2 1365 2134,oF (tF 164) "unpredicted" .none pi (.ref 1370),oe,ol,oS 2142 ["text","short"],oe,oG (tF 166) "full_name",oc "full_name" 2139 1204 1 1372 2144,oF (tF 166) "full_name" .none xj (.ref 1377),oe]
def RN (P:Params):List Obj:=[ol,oS 2150 ["shelf","head","given","names","item","name"],oe,oG (tF 167) "filter_names",Km,Ko,oe,ol,oG (tF 168) "filter_parms",Kq,Kr,oe,ol,oS 2168 ["parms","early"],oe,oG (tF 169) "early_of",oc "early_of" 2165 1234 1 1391 2170,oF (tF 169) "early_of" .none xj (.ref 1396),oe,ol,oS 2176 ["name","octets"],oe,oG (tF 170) "undo_plain",oc "undo_plain" 2173 1241 2 1398 2178,oF (tF 170) "undo_plain" .none xj (.ref 1403),oe,ol,oS 2184 ["name","octets","parms","plain"],oe,oG (tF 171) "undo_one"]
def RO (P:Params):List Obj:=[oc "undo_one" 2181 1247 3 1405 2188,oF (tF 171) "undo_one" .none xj (.ref 1410),oe,ol,oS 2194 ["shelf","stream","names","octets","name","parms"],oe,oG (tF 172) "decoded",Kt,Ku,GO,GP,oe,ol,oS 2221 ["octets","total","code"],oe,oG (tF 177) "field",Kv,Kw,oe,ol,oS 2230 ["value"],oe,oG (tF 178) "is_count",Kx,Ky,oe,ol,oS 2237 ["shelf","head","key","array","found","part","value"],oe,oG (tF 179) "counts_in"]
def RP (P:Params):List Obj:=[Kz,KB,oe,ol,oS 2250 ["shelf","head","found"],oe,oG (tF 180) "widths_in",KC,KD,oe,ol,oS 2259 ["shelf","head","runs","count"],oe,oG (tF 181) "numbers_in",KF,KG,oe,ol,oS 2269 ["row","widths","cut","way"],oe,oG (tF 182) "row_entry",KH,KI,oe,ol,oS 2279 ["octets","widths","runs","entries","known","size","at","spot","number","entry"],oe,oG (tF 183) "entries_of",KJ,KL]
def RQ (P:Params):List Obj:=[oe,ol,oS 2295 ["head","found","key"],oe,oG (tF 184) "trailer_of",KM,KN,oe,ol,oS 2304 ["shelf","value","kind"],oe,oG (tF 185) "is_cross_stream",KO,KP,oe,ol,oS 2313 ["shelf","stream","widths","runs","octets","fault"],oe,oG (tF 186) "read_cross_stream",KQ,KR,oe,ol,oS 2327 ["shelf","value","word"],oe,oG (tF 188) "is_object_stream",oc "is_object_stream" 2324 1348 2 1491 2330,oF (tF 188) "is_object_stream" .none qn (.ref 1496),oe,ol]
def RT (P:Params):List Obj:=[oS 2336 ["shelf","head","key","value"],oe,oG (tF 189) "count_told",oc "count_told" 2333 1353 3 1498 2340,oF (tF 189) "count_told" .none qn (.ref 1503),oe,ol,oS 2346 ["cursor","number"],oe,oG (tF 190) "next_count",oc "next_count" 2343 1358 1 1505 2348,oF (tF 190) "next_count" .none qn (.ref 1510),oe,ol,oS 2354 ["data","first","many","cursor","found","turn","number","offset"],oe,oG (tF 191) "read_pairs",oc "read_pairs" 2351 1364 3 1512 2362,oF (tF 191) "read_pairs" .none qn (.ref 1517),oe,ol,oS 2368 ["data","begin","end","cursor","value"],oe,oG (tF 192) "read_part",oc "read_part" 2365 1376 3 1519 2373,oF (tF 192) "read_part" .none qn (.ref 1524),oe,vj,gG P gT (7) ([kv "__module__" 2384 qn,kv "__qualname__" 2386 (.str "Opened" 2385),kv "__firstlineno__" 2388 (.int 1388 2387),kv "__init__" 2398 (.ref 1539),kv "object_at" 2408 (.ref 1546),kv "all_objects" 2414 (.ref 1551),kv "__static_attributes__" 2418 (.ref 1552)]),oe]
def RU (P:Params):List Obj:=[oL [1390,4,1538,1395,4,1545,1402,4,1550],oD "Opened" 2379 1388 1529 2382,uv [(some (.ref 1531)),(some (.ref 3)),(some (.ref 1528)),none,(some qn),none,(some (.ref 0))],oe,ol,oS 2392 ["self","data","first","pairs"],oe,oG (tM 194 0) "Opened.__init__",oC "__init__" "Opened.__init__" 2389 1390 4 1533 2396,oF (tM 194 0) "Opened.__init__" .none qn (.ref 1538),oe,ol,oS 2402 ["self","index","begin","end"],oe,oG (tM 194 1) "Opened.object_at",oC "object_at" "Opened.object_at" 2399 1395 2 1540 2406,oF (tM 194 1) "Opened.object_at" .none qn (.ref 1545),oe,ol,oG (tM 194 2) "Opened.all_objects",oX nA [(.str "all_objects" 2409),(.str "Opened.all_objects" 2410),(.str "/claim/cut.py" 2411),(.int 1402 0),(.int 1 0),(.int 0 0),(.int 0 0),(.int 3 0),(.ref 1547),j5,(.int 181 0),(.ref 1548),.none,.none,.none,(.ref 1549),(.int 2412 0),(.int 1402 0),(.str "/claim/cut.py" 2413)],oF (tM 194 2) "Opened.all_objects" .none qn (.ref 1550),oS 2415 ["data","first","pairs"],gG P gT (4) ([kv "__module__" 2384 qn,kv "__firstlineno__" 2388 (.int 1388 2387),kv "__init__" 2398 (.ref 1539),kv "object_at" 2408 (.ref 1546),kv "all_objects" 2414 (.ref 1551),kv "__static_attributes__" 2418 (.ref 1552),kv "__dict__" 2420 (.ref 1555),kv "__weakref__" 2422 (.ref 1556),kv "__doc__" 2423 .none]),oK "Opened" [jB] [(.ref 1554),jB] 1553 [] [none,none,(some (.str "Opened" 2377)),(some (.str "Opened" 2385)),(some zw),(some j5)],oX lE [(.str "__dict__" 2419),(.ref 1554),lF,lH],oX lE [(.str "__weakref__" 2421),(.ref 1554),j6,.none],oX vh [(.ref 1554),(.ref 1554),(.ref 1554)],oX u7 [vi,(.ref 1554)],oe]
def RV (P:Params):List Obj:=[ol,oS 2429 ["data","first","many"],oe,oG (tF 195) "open_octets",oc "open_octets" 2426 1404 3 1559 2432,oF (tF 195) "open_octets" .none qn (.ref 1564),oe,ol,oS 2438 ["shelf","stream","undo","many","first"],oe,oG (tF 196) "read_packed_by",oc "read_packed_by" 2435 1408 3 1566 2443,oF (tF 196) "read_packed_by" .none qn (.ref 1571),oe,ol,oS 2449 ["shelf","stream"],oe,oG (tF 197) "read_packed",oc "read_packed" 2446 1414 2 1573 2451,oF (tF 197) "read_packed" .none qn (.ref 1578),GQ,oe,vj,gG P gT (5) ([kv "__module__" 2467 gF,kv "__qualname__" 2469 (.str "Section" 2468),kv "__firstlineno__" 2471 (.int 1418 2470),kv "__init__" 2481 (.ref 1594),kv "__static_attributes__" 2485 (.ref 1595)]),oe,oL [1420,4,1593],oD "Section" 2462 1418 1584 2465,uv [(some (.ref 1586)),(some (.ref 3)),(some (.ref 1583)),none,(some gF),none,(some (.ref 0))],oe,ol]
def RW (P:Params):List Obj:=[oS 2475 ["self","at","entries","trailer"],oe,oG (tM 200 0) "Section.__init__",KS,KT,oS 2482 ["at","entries","trailer"],KU P,KV,oX lE [(.str "__dict__" 2486),(.ref 1597),lF,lH],oX lE [(.str "__weakref__" 2488),(.ref 1597),j6,.none],oX vh [(.ref 1597),(.ref 1597),(.ref 1597)],oX u7 [vi,(.ref 1597)],oe,ol,oS 2496 ["data","at","read","value","fault","entries","trailer"],oe,oG (tF 201) "stream_section",KW,KX,oe,ol,oS 2509 ["data","trailer","key","value"],oe,oG (tF 202) "offset_told",KY,KZ,oe,ol,oS 2519 ["upper","lower","found","number"],oe]
def RX (P:Params):List Obj:=[oG (tF 203) "joined_entries",K0,K5,oe,ol,oS 2529 ["data","at","entries","trailer"],oe,oG (tF 204) "classic_section",K6,K7,oe,ol,oS 2539 ["data","at","read","section","beneath"],oe,oG (tF 205) "hybrid_section",K8,K9,oe,ol,oS 2550 ["data","at","read","cursor"],oe,oG (tF 206) "section_by",La,Lb,oe,ol,oS 2560 ["data","at"],oe,oG (tF 207) "read_section",Lc]
def RY (P:Params):List Obj:=[Ld,oe,ol,oS 2568 ["data","begin","read","found","seen","at","section"],oe,oG (tF 208) "chain_along",Le,Lg,oe,ol,oS 2581 ["data","begin"],oe,oG (tF 209) "sections_of",Lh,Li,oe,ol,oG (tF 210) "newest_entries",Lj,Ll,oe,ol,oG (tF 211) "document_trailer",Lm,Ln,oe,ol,oS 2601 ["data","number","entry","cursor"],oe,oG (tF 212) "meets"]
def RZ (_P:Params):List Obj:=[oc "meets" 2598 1484 3 1675 2605,oF (tF 212) "meets" .none gF (.ref 1680),oe,ol,oS 2611 ["value"],oe,oG (tF 213) "has_far_length",oc "has_far_length" 2608 1496 1 1682 2612,oF (tF 213) "has_far_length" .none gF (.ref 1687),oe,ol,oS 2618 ["data","entry","shelf"],oe,oG (tF 214) "used_object",oc "used_object" 2615 1498 3 1689 2621,oF (tF 214) "used_object" .none gF (.ref 1694),oe,ol,oS 2627 ["data","entries","shelf","again","number","entry","value"],oe,oG (tF 215) "put_used",oc "put_used" 2624 1500 3 1696 2634,oF (tF 215) "put_used" .none gF (.ref 1701),oe,ol,oS 2640 ["entries","found","number","entry"],oe,oG (tF 216) "packed_places",oc "packed_places" 2637 1511 1 1703 2644,oF (tF 216) "packed_places" .none gF (.ref 1708)]
def R1 (_P:Params):List Obj:=[oe,ol,oS 2650 ["entries","shelf","read","places","holder","stream","pairs","number","index"],oe,oG (tF 217) "put_packed_by",oc "put_packed_by" 2647 1520 3 1710 2659,oF (tF 217) "put_packed_by" .none gF (.ref 1715),oe,ol,oS 2665 ["shelf","number","value"],oe,oG (tF 218) "drop_file_streams",oc "drop_file_streams" 2662 1529 1 1717 2668,oF (tF 218) "drop_file_streams" .none gF (.ref 1722),oe,ol,oS 2674 ["data","sections","read","entries","shelf"],oe,oG (tF 219) "shelf_by",oc "shelf_by" 2671 1534 3 1724 2679,oF (tF 219) "shelf_by" .none gF (.ref 1729),oe,ol,oS 2685 ["data","sections"],oe,oG (tF 220) "shelf_of",oc "shelf_of" 2682 1541 2 1731 2687,oF (tF 220) "shelf_of" .none gF (.ref 1736),oe,ol]
def R3 (P:Params):List Obj:=[oS 2693 ["data","entries","value","reference","shelf","entry"],oe,oG (tF 221) "length_shelf",oc "length_shelf" 2690 1543 3 1738 2699,oF (tF 221) "length_shelf" .none gF (.ref 1743),oe,ol,oS 2705 ["data","entries","number","generation","entry","value"],oe,oG (tF 222) "used_at",oc "used_at" 2702 1551 4 1745 2711,oF (tF 222) "used_at" .none gF (.ref 1750),oe,ol,oS 2717 ["data","entries","number","generation","read","entry","shelf"],oe,oG (tF 223) "object_by",oc "object_by" 2714 1559 5 1752 2724,oF (tF 223) "object_by" .none gF (.ref 1757),oe,vj,gG P gT (8) ([kv "__module__" 2734 gF,kv "__qualname__" 2736 (.str "Paper" 2735),kv "__firstlineno__" 2738 (.int 1569 2737),kv "__init__" 2747 (.ref 1772),kv "entry" 2755 (.ref 1779),kv "object_at" 2764 (.ref 1786),kv "shelf" 2773 (.ref 1794),kv "__static_attributes__" 2778 (.ref 1795)]),oe,oL [1571,4,1771,1577,4,1778,1580,4,1785,1583,4,1793],oD "Paper" 2729 1569 1762 2732,uv [(some (.ref 1764)),(some (.ref 3)),(some (.ref 1761)),none,(some gF),none,(some (.ref 0))],oe,ol,oS 2742 ["self","data","sections"],oe]
def R4 (P:Params):List Obj:=[oG (tM 224 0) "Paper.__init__",Lo,Lp,oe,ol,oS 2751 ["self","number"],oe,oG (tM 224 1) "Paper.entry",Lq,Lr,oe,ol,oS 2759 ["self","number","generation"],oe,oG (tM 224 2) "Paper.object_at",oC "object_at" "Paper.object_at" 2756 1580 3 1780 2762,oF (tM 224 2) "Paper.object_at" .none gF (.ref 1785),oT 0 [(.int 0 2765)],oe,ol,oS 2769 ["self","count"],oe,oG (tM 224 3) "Paper.shelf",oC "shelf" "Paper.shelf" 2766 1583 2 1788 2771,oF (tM 224 3) "Paper.shelf" (.ref 1787) gF (.ref 1793),oS 2774 ["data","entries","sections","trailer"],Ls P,Lu,oX lE [(.str "__dict__" 2779),(.ref 1797),lF,lH],oX lE [(.str "__weakref__" 2781),(.ref 1797),j6,.none]]
def R5 (P:Params):List Obj:=[oX vh [(.ref 1797),(.ref 1797),(.ref 1797)],oX u7 [vi,(.ref 1797)],oe,ol,oS 2789 ["data"],oe,oG (tF 225) "load",Lv,Lx,oe,ol,oG (tF 227) "_law_pen",Ly,Lz,oe,ol,oS 2804 ["pen","many","digit"],oe,oG (tF 228) "_law_draw",LA,LB,oe,ol,oS 2813 ["pen","some"],oe,oG (tF 229) "_law_pick",LC,LD,oe,ol]
def R6 (P:Params):List Obj:=[oS 2821 ["pen","ways","table","turn"],oe,oG (tF 230) "_law_table",LE,LF,oe,ol,oG (tF 231) "_law_octets",LG,LH,oe,ol,oS 2837 ["table","keys","text","number","way","one","two"],oe,oG (tF 232) "_law_classic",LI,LJ,oe,ol,oS 2850 ["table","keys","rows","places","number","way","one","two","text"],oe,oG (tF 233) "_law_stream",LK,LL,oe,ol,oS 2865 ["pen","world","before","is_newest","kind","keys","trailer","table","joined_rows","lower","number","key","place"],oe,oG (tF 234) "_law_laid",LM]
def R7 (P:Params):List Obj:=[LN,oe,ol,oG (tF 235) "_law_rows",LP,LQ,oe,ol,oS 2890 ["data","begin","caught","found","fault"],oe,oG (tF 236) "_law_heard",LR,LT,oe,ol,oG (tF 237) "law",LV,LW]
def Mj (P:Params):List Obj:=Tm P++(Tn P++(To P++(Tp P++(Tq P++(Tr P++(Ts P++(Tt P++(Tu P++(Tv P++(Rc P++(Rd P++(Re P++(Rf P++(Rg P++(Rh P++(Ri P++(Rj P++(Rk P++(Rl P++(Rm P++(Ro P++(Rp P++(Rq P++(Rr P++(Rs P++(Rt P++(Ru P++(Rv P++(Rw P++(Rx P++(Ry P++(Rz P++(RA P++(RB P++(RC P++(RD P++(RE P++(RF P++(RG P++(RH P++(RI P++(RJ P++(RK P++(RL P++(RM P++(RN P++(RO P++(RP P++(RQ P++(RT P++(RU P++(RV P++(RW P++(RX P++(RY P++(RZ P++(R1 P++(R3 P++(R4 P++(R5 P++(R6 P++(R7 P))))))))))))))))))))))))))))))))))))))))))))))))))))))))))))))
def Tw (P:Params):Frag:=[(1,boot_o_1 P),(3,k3 P),(29,SL),(35,SM),(36,SN),(45,SO P),(46,SQ),(58,SR P),(59,ST),(70,SU P),(71,SV),(82,SW P),(83,SX),(86,Ra),(87,Rb),(93,SY),(94,SZ),(100,NA),(101,NB),(107,NC),(108,ND),(116,NE),(122,NF),(123,NG),(129,NH),(130,NI),(131,NJ),(137,NK),(138,NL),(144,NM),(145,NN),(151,NO),(152,NP),(158,NQ),(159,NR),(165,NS),(166,NT),(172,NU),(173,NW),(179,NX),(180,NY)]
def Tx (P:Params):Frag:=[(193,NZ),(194,N0),(200,N5),(201,N6),(207,N7),(208,N8),(210,N9 P),(211,Oa),(308,Ob P),(309,Oc),(333,Od),(334,Oe),(347,Og),(348,Oh),(350,Oi P),(351,Oj),(363,Ol),(369,Om),(370,On),(372,Oo P),(373,Op),(390,Oq),(391,Os),(393,Ot P),(394,Ou),(421,Ov P),(422,Ow),(432,Ox),(433,Oy),(439,Oz),(440,OA),(444,OB),(445,OC),(453,OD),(459,OE),(460,OF),(466,OG),(467,OH),(473,OI),(474,OJ)]
def Ty (P:Params):Frag:=[(476,OK P),(477,OL),(530,OM P),(531,ON),(534,Mi),(549,OO),(555,OP),(556,OQ),(588,OR),(589,OS),(595,OT),(596,OU),(602,OV),(603,OW),(609,OX),(610,OY),(623,OZ),(624,O0),(630,O1),(631,O2),(633,O3 P),(634,O4),(644,O5),(645,O6),(651,O7),(652,O8),(665,O9),(666,Pa),(670,Pb),(671,Pc),(677,Pd),(678,Pe),(679,Pf),(685,Pg),(686,Ph),(692,Pi),(693,Pj),(699,Pk),(700,Pl),(708,Pm)]
def Tz (P:Params):Frag:=[(714,Pn),(715,Po),(721,Pp),(722,Pq),(728,Pr),(729,Ps),(730,Pt),(736,Pu),(737,Pv),(750,Pw),(751,Px),(757,Py),(758,Pz),(760,PA P),(761,PB),(771,PC),(772,PD),(778,PE),(779,PF),(785,PG),(786,PH),(792,PI),(793,PJ),(799,PK),(800,PL),(806,PM),(807,PN),(813,PO),(814,PP),(820,PQ),(821,PR),(827,PS),(828,PT),(834,PU),(835,PX),(841,PY),(842,PZ),(1384,Km),(1385,Ko),(1389,Kq)]
def TA (P:Params):Frag:=[(1390,Kr),(1417,Kt),(1418,Ku),(1419,GO),(1420,GP),(1426,Kv),(1427,Kw),(1433,Kx),(1434,Ky),(1440,Kz),(1441,KB),(1447,KC),(1448,KD),(1454,KF),(1455,KG),(1461,KH),(1462,KI),(1468,KJ),(1469,KL),(1475,KM),(1476,KN),(1482,KO),(1483,KP),(1489,KQ),(1490,KR),(1580,GQ),(1593,KS),(1594,KT),(1596,KU P),(1597,KV),(1607,KW),(1608,KX),(1614,KY),(1615,KZ),(1621,K0),(1622,K5),(1628,K6),(1629,K7),(1635,K8),(1636,K9)]
def TB (P:Params):Frag:=[(1642,La),(1643,Lb),(1649,Lc),(1650,Ld),(1656,Le),(1657,Lg),(1663,Lh),(1664,Li),(1668,Lj),(1669,Ll),(1673,Lm),(1674,Ln),(1771,Lo),(1772,Lp),(1778,Lq),(1779,Lr),(1796,Ls P),(1797,Lu),(1807,Lv),(1808,Lx),(1812,Ly),(1813,Lz),(1819,LA),(1820,LB),(1826,LC),(1827,LD),(1833,LE),(1834,LF),(1838,LG),(1839,LH),(1845,LI),(1846,LJ),(1852,LK),(1853,LL),(1859,LM),(1860,LN),(1864,LP),(1865,LQ),(1871,LR),(1872,LT)]
def TC (P:Params):Frag:=[(1876,LV),(1877,LW)]
def KK (P:Params):Frag:=Tw P++(Tx P++(Ty P++(Tz P++(TA P++(TB P++(TC P))))))
noncomputable def KA:List Addr:=[1,3,29,35,36,45,46,58,59,70,71,82,83,86,87,93,94,100,101,107,108,116,122,123,129,130,131,137,138,144,145,151,152,158,159,165,166,172,173,179,180,193,194,200,201,207,208,210,211,308,309,333,334,347,348,350,351,363,369,370,372,373,390,391,393,394,421,422,432,433,439,440,444,445,453,459,460,466,467,473,474,476,477,530,531,534,549,555,556,588,589,595,596,602,603,609,610,623,624,630,631,633,634,644,645,651,652,665,666,670,671,677,678,679,685,686,692,693,699,700,708,714,715,721,722,728,729,730,736,737,750,751,757,758,760,761,771,772,778,779,785,786,792,793,799,800,806,807,813,814,820,821,827,828,834,835,841,842,1384,1385,1389,1390,1417,1418,1419,1420,1426,1427,1433,1434,1440,1441,1447,1448,1454,1455,1461,1462,1468,1469,1475,1476,1482,1483,1489,1490,1580,1593,1594,1596,1597,1607,1608,1614,1615,1621,1622,1628,1629,1635,1636,1642,1643,1649,1650,1656,1657,1663,1664,1668,1669,1673,1674,1771,1772,1778,1779,1796,1797,1807,1808,1812,1813,1819,1820,1826,1827,1833,1834,1838,1839,1845,1846,1852,1853,1859,1860,1864,1865,1871,1872,1876,1877]
noncomputable def GR (l:List Obj) (ps:List (Nat×Obj)):List Obj:=ps.foldl (fun l p=>l.set p.1 p.2) l
def Qa (P:Params):List Obj:=GR ((Mj P).take 738) [(3,gG P gT (82) ([kv "__name__" 165 qk,kv "__doc__" 166 .none,kv "__package__" 167 .none,kv "__loader__" 168 Mg,kv "__spec__" 169 .none,kv "__annotations__" 170 (.ref 6),kv "__builtins__" 171 (.ref 4),kv "__file__" 173 Mh,kv "__cached__" 174 .none,kv "_wall" 193 (.ref 21),kv "PaperError" 235 (.ref 46),kv "SyntaxFault" 251 (.ref 59),kv "CrossFault" 267 (.ref 71),kv "FilterFault" 283 (.ref 83),kv "WHITE" 292 (.ref 86),kv "DELIMITERS" 303 (.ref 87),kv "LINE_FEED" 305 (.int 10 304),kv "RETURN" 307 (.int 13 306),kv "COMMENT" 309 (.int 37 308),kv "MOST_FIGURES_cursor" 311 (.int 20 310),kv "is_white" 318 (.ref 94),kv "is_regular" 325 (.ref 101),kv "is_figure" 332 (.ref 108),kv "Cursor" 465 (.ref 211)]++[kv "MOST_FIGURES_decimals" 469 (.int 40 468),kv "PLUS" 471 (.int 43 470),kv "MINUS" 473 (.int 45 472),kv "POINT" 475 (.int 46 474),kv "ZERO" 477 (.int 48 476),kv "Decimal" 592 (.ref 309),kv "sign_text" 599 (.ref 320),kv "decimal_of" 606 (.ref 327),kv "read_decimal" 618 (.ref 334),kv "MOST_HOPS" 622 (.int 30 621),kv "Name" 651 (.ref 351),kv "String" 682 (.ref 373),kv "Stream" 713 (.ref 394),kv "Reference" 751 (.ref 422),kv "kind_of" 758 (.ref 433),kv "told_plain" 766 (.ref 440),kv "told" 772 (.ref 445),kv "told_objects" 773 (.ref 445),kv "Lookup" 825 (.ref 477),kv "Shelf" 887 (.ref 531),kv "PAREN" 891 (.int 40 890),kv "CLOSE_PAREN" 893 (.int 41 892),kv "LESS" 895 (.int 60 894),kv "GREATER" 897 (.int 62 896)]++[kv "SLASH" 899 (.int 47 898),kv "BACKSLASH" 901 (.int 92 900),kv "HASH" 903 (.int 35 902),kv "SIGNS" 908 (.ref 534),kv "hex_worth" 915 (.ref 541),kv "plain_escape" 922 (.ref 548),kv "name_text" 937 (.ref 556),kv "octal" 947 (.ref 563),kv "escaped_codes" 955 (.ref 570),kv "literal" 966 (.ref 577),kv "hex_string" 972 (.ref 582),kv "run_token" 982 (.ref 589),kv "delimited_token" 991 (.ref 596),kv "next_token" 1000 (.ref 603),kv "is_sign" 1008 (.ref 610),kv "MOST_DEPTH" 1012 (.int 40 1011),kv "Frame" 1049 (.ref 634),kv "is_whole" 1056 (.ref 645),kv "take_reference" 1066 (.ref 652),kv "word_value" 1074 (.ref 659),kv "plain_value" 1086 (.ref 666),kv "dict_of" 1092 (.ref 671),kv "close_frame" 1103 (.ref 678),kv "object_from" 1118 (.ref 686)]++[kv "read_object" 1125 (.ref 693),kv "length_of" 1134 (.ref 700),kv "without_line_end" 1141 (.ref 707),kv "read_stream" 1154 (.ref 715),kv "skip_word" 1163 (.ref 722),kv "take_number" 1173 (.ref 729),kv "read_indirect" 1187 (.ref 737),kv "MOST_GENERATION" 1191 (.int 65535 1190),kv "BLANK" 1193 (.int 32 1192),kv "LETTER_F" 1195 (.int 102 1194)])),(12,oL [1,0,20,5,0,27,14,0,55,16,0,67,18,0,79,27,0,93,29,0,100,31,0,107,33,0,114,115,0,221,161,0,319,163,0,326,169,0,333,193,0,340,197,0,361,202,0,383,207,0,404,215,0,432,237,0,439,251,0,444,261,0,451,280,0,487,310,0,540,318,0,547,330,0,555,346,0,562,353,0,569,362,0,576,382,0,581,397,0,588,405,0,595,423,0,602,432,0,609,436,0,616,444,0,644,446,0,651,455,0,658,463,0,665,480,0,670,485,0,677,495,0,685,515,0,692,517,0,699,522,0,706,528,0,714,543,0,721,550,0,728,555,0,736])]
def Mk (P:Params):List Obj:=GR ((Mj P).take 1269) [(3,gG P gT (147) ([kv "__name__" 165 nE,kv "__doc__" 166 .none,kv "__package__" 167 .none,kv "__loader__" 168 Mg,kv "__spec__" 169 .none,kv "__annotations__" 170 (.ref 6),kv "__builtins__" 171 (.ref 4),kv "__file__" 173 Mh,kv "__cached__" 174 .none,kv "_wall" 193 (.ref 21),kv "PaperError" 235 (.ref 46),kv "SyntaxFault" 251 (.ref 59),kv "CrossFault" 267 (.ref 71),kv "FilterFault" 283 (.ref 83),kv "WHITE" 292 (.ref 86),kv "DELIMITERS" 303 (.ref 87),kv "LINE_FEED" 305 (.int 10 304),kv "RETURN" 307 (.int 13 306),kv "COMMENT" 309 (.int 37 308),kv "MOST_FIGURES_cursor" 311 (.int 20 310),kv "is_white" 318 (.ref 94),kv "is_regular" 325 (.ref 101),kv "is_figure" 332 (.ref 108),kv "Cursor" 465 (.ref 211)]++[kv "MOST_FIGURES_decimals" 469 (.int 40 468),kv "PLUS" 471 (.int 43 470),kv "MINUS" 473 (.int 45 472),kv "POINT" 475 (.int 46 474),kv "ZERO" 477 (.int 48 476),kv "Decimal" 592 (.ref 309),kv "sign_text" 599 (.ref 320),kv "decimal_of" 606 (.ref 327),kv "read_decimal" 618 (.ref 334),kv "MOST_HOPS" 622 (.int 30 621),kv "Name" 651 (.ref 351),kv "String" 682 (.ref 373),kv "Stream" 713 (.ref 394),kv "Reference" 751 (.ref 422),kv "kind_of" 758 (.ref 433),kv "told_plain" 766 (.ref 440),kv "told" 772 (.ref 445),kv "told_objects" 773 (.ref 445),kv "Lookup" 825 (.ref 477),kv "Shelf" 887 (.ref 531),kv "PAREN" 891 (.int 40 890),kv "CLOSE_PAREN" 893 (.int 41 892),kv "LESS" 895 (.int 60 894),kv "GREATER" 897 (.int 62 896)]++[kv "SLASH" 899 (.int 47 898),kv "BACKSLASH" 901 (.int 92 900),kv "HASH" 903 (.int 35 902),kv "SIGNS" 908 (.ref 534),kv "hex_worth" 915 (.ref 541),kv "plain_escape" 922 (.ref 548),kv "name_text" 937 (.ref 556),kv "octal" 947 (.ref 563),kv "escaped_codes" 955 (.ref 570),kv "literal" 966 (.ref 577),kv "hex_string" 972 (.ref 582),kv "run_token" 982 (.ref 589),kv "delimited_token" 991 (.ref 596),kv "next_token" 1000 (.ref 603),kv "is_sign" 1008 (.ref 610),kv "MOST_DEPTH" 1012 (.int 40 1011),kv "Frame" 1049 (.ref 634),kv "is_whole" 1056 (.ref 645),kv "take_reference" 1066 (.ref 652),kv "word_value" 1074 (.ref 659),kv "plain_value" 1086 (.ref 666),kv "dict_of" 1092 (.ref 671),kv "close_frame" 1103 (.ref 678),kv "object_from" 1118 (.ref 686)]++[kv "read_object" 1125 (.ref 693),kv "length_of" 1134 (.ref 700),kv "without_line_end" 1141 (.ref 707),kv "read_stream" 1154 (.ref 715),kv "skip_word" 1163 (.ref 722),kv "take_number" 1173 (.ref 729),kv "read_indirect" 1187 (.ref 737),kv "MOST_GENERATION" 1191 (.int 65535 1190),kv "BLANK" 1193 (.int 32 1192),kv "LETTER_F" 1195 (.int 102 1194),kv "LETTER_N" 1197 (.int 110 1196),kv "Entry" 1237 (.ref 761),kv "take_figures" 1247 (.ref 772),kv "take_blank" 1254 (.ref 779),kv "take_entry_end" 1262 (.ref 786),kv "take_entry" 1273 (.ref 793),kv "take_count" 1282 (.ref 800),kv "take_subsection" 1293 (.ref 807),kv "take_trailer" 1303 (.ref 814),kv "read_classic" 1311 (.ref 821),kv "overlaid" 1321 (.ref 828),kv "find_start" 1332 (.ref 835),kv "tail" 1339 (.ref 842),kv "HEX_END" 1343 (.int 62 1342)]++[kv "TILDE" 1345 (.int 126 1344),kv "LEAST_SIGN" 1347 (.int 33 1346),kv "MOST_SIGN" 1349 (.int 117 1348),kv "FOUR_NOUGHTS" 1351 (.int 122 1350),kv "MOST_GROUP" 1357 (.int 4294967295 1356),kv "RUN_END" 1359 (.int 128 1358),kv "figure_worth" 1366 (.ref 849),kv "hex_decoded" 1372 (.ref 854),kv "octets_of_group" 1385 (.ref 861),kv "is_end_at" 1394 (.ref 868),kv "base85_decoded" 1406 (.ref 875),kv "run_decoded" 1417 (.ref 882),kv "OCTET" 1421 (.int 8 1420),kv "low_bits" 1429 (.ref 889),kv "BitsIn" 1502 (.ref 942),kv "HighBitsIn" 1557 (.ref 984),kv "greatest_length" 1566 (.ref 995),kv "tally_of" 1575 (.ref 1002),kv "room_left" 1584 (.ref 1009),kv "is_full" 1591 (.ref 1016),kv "is_over" 1598 (.ref 1023),kv "symbols_of" 1604 (.ref 1028),kv "Decoder" 1646 (.ref 1052),kv "END" 1650 (.int 256 1649)]++[kv "SUM_BASE" 1652 (.int 65521 1651),kv "length_rows" 1663 (.ref 1063),kv "distance_rows" 1674 (.ref 1070),kv "length_order" 1682 (.ref 1077),kv "fixed_lengths" 1688 (.ref 1084),kv "repeated" 1697 (.ref 1091),kv "read_lengths" 1714 (.ref 1098),kv "is_usable" 1721 (.ref 1105),kv "read_decoders" 1730 (.ref 1112),kv "read_part" 1743 (.ref 1119),kv "read_part_inflate" 1744 (.ref 1119),kv "lay_part" 1756 (.ref 1126),kv "read_stored" 1764 (.ref 1133),kv "block_decoders" 1774 (.ref 1140),kv "inflate_into" 1788 (.ref 1147),kv "inflate" 1799 (.ref 1155),kv "adler" 1809 (.ref 1162),kv "check_frame" 1816 (.ref 1169),kv "check_sum" 1827 (.ref 1176),kv "zlib_decoded" 1836 (.ref 1183),kv "BITS_lzw" 1840 (.int 8 1839),kv "WIDEST" 1842 (.int 12 1841),kv "Sizes" 1889 (.ref 1208),kv "Count" 1935 (.ref 1243)]++[kv "read_codes" 1947 (.ref 1254),kv "word_of" 1958 (.ref 1261),kv "unpacked_codes" 1971 (.ref 1268)])),(12,oL [1,0,20,5,0,27,14,0,55,16,0,67,18,0,79,27,0,93,29,0,100,31,0,107,33,0,114,115,0,221,161,0,319,163,0,326,169,0,333,193,0,340,197,0,361,202,0,383,207,0,404,215,0,432,237,0,439,251,0,444,261,0,451,280,0,487,310,0,540,318,0,547,330,0,555,346,0,562,353,0,569,362,0,576,382,0,581,397,0,588,405,0,595,423,0,602,432,0,609,436,0,616,444,0,644,446,0,651,455,0,658,463,0,665,480,0,670,485,0,677,495,0,685,515,0,692,517,0,699,522,0,706,528,0,714,543,0,721,550,0,728,555,0,736,571,0,743,580,0,771,587,0,778,591,0,785,597,0,792,611,0,799,617,0,806,628,0,813,638,0,820,650,0,827,657,0,834,671,0,841,681,0,848,689,0,853,702,0,860,714,0,867,721,0,874,743,0,881,761,0,888,763,0,895,798,0,952,825,0,994,827,0,1001,833,0,1008,838,0,1015,840,0,1022,842,0,1027,850,0,1034,872,0,1062,882,0,1069,892,0,1076,900,0,1083,902,0,1090,910,0,1097,933,0,1104,935,0,1111,942,0,1118,957,0,1125,966,0,1132,972,0,1139,979,0,1146,994,0,1154,999,0,1161,1006,0,1168,1015,0,1175,1023,0,1182,1031,0,1189,1045,0,1218,1063,0,1253,1073,0,1260,1082,0,1267])]
theorem KA_eq:∀P,KA=(KK P).map (·.1):=by intro P;kernel_rfl
end
noncomputable section
def yy:List Stmt:=behindTheImports pw
def Fk:Env:={scope:=pw.main.scope,locals:=mainNs,globals:=mainNs,cells:=[],code:= .ref 13,frame:=some 14}
def cT:Code:= .body yy Fk
abbrev p0:Pos:=⟨0,0,0,0⟩
abbrev pA:Pos:=⟨569,0,569,8⟩
abbrev pB:Pos:=⟨1082,0,1098,16⟩
abbrev p1:Pos:=⟨1650,0,1682,132⟩
def R8:List Stmt:=yy.take 80
def R9:List Stmt:=(yy.drop 80).take 70
def Sb:List Stmt:=(yy.drop 80).drop 70
abbrev Nn:List Frame:=[topFrame p0]
def Sc (P:Params):List Obj:=[boot_o_0 P,boot_o_1 P,boot_o_2 P,boot_o_3 P,boot_o_4 P,boot_o_5 P,boot_o_6 P,boot_o_7 P,boot_o_8 P,boot_o_9 P,boot_o_10 P,
 oe,oX .none [],oX (.type "code") [.str "<module>" 182,.str "<module>" 183,.str "/claim/cut.py" 184,.int 1 0,.int 0 0,.int 0 0,.int 0 0,.int 0 0,.ref 11,.bool false,.int 181 0,.ref 12,.none,.none,.none,.none,.int 185 0,.int 1 0,.str "/claim/cut.py" 186],
 uv [some (.ref 13),some (.ref 3),some (.ref 3),none,some (.str "__main__" 164),none,some (.ref 0)]]
def Sa (w:World) (os:OsState):SharedT:=⟨Dg 6 (Sc w.params),15,{},Array.mk [],{},187,os⟩
def Sf (w:World) (os:OsState):SharedT:=⟨Dg 12 (Mj w.params),1878,{},Array.mk [],{},2904,os⟩
def Ta (w:World) (os:OsState):SharedT:=⟨Dg 12 (Qa w.params),738,{},Array.mk [],{},1196,os⟩
def Tc (w:World) (os:OsState):SharedT:=⟨Dg 12 (Mk w.params),1269,{},Array.mk [],{},1972,os⟩
set_option maxRecDepth 100000
set_option maxHeartbeats 0
theorem Ml (w:World) (os:OsState):topGo treeTable pw w 11 (some (.ref 6)) 12 (S0 w os).abs (topStub pw)=some ((Sa w os).abs,⟨denote treeTable cT,cT,p0,Nn⟩):=by
 rw[PySem.W.Fast.te15667345088766844465,PySem.W.Fast.te11892475500146522536,PySem.W.Fast.te14364793385576792824]
 kernel_rfl
theorem GS (w:World) (os:OsState):segRun treeTable pw w 11 (some (.ref 6)) 1 1 (Sa w os).abs (blockOf yy Fk cT p0 Nn)=some (.next,(Sa w os).abs,cT,p0):=by
 rw[PySem.W.Fast.te14374325043358763698,PySem.W.Fast.te14364793385576792824]
 kernel_rfl
end
noncomputable section
set_option maxRecDepth 100000
set_option maxHeartbeats 0
theorem Sd (w:World) (os:OsState):segRunT treeTable pw w 11 (some (.ref 6)) 1 5500 (Sa w os) (piecesOf R8 Fk cT p0 Nn)=some (.next,Ta w os,cT,pA):=by
 rw[PySem.W.Fast.te10110043849684766642,PySem.W.Fast.te14364793385576792824]
 kernel_rfl
end
noncomputable section
set_option maxRecDepth 100000
set_option maxHeartbeats 0
theorem Se (w:World) (os:OsState):segRunT treeTable pw w 11 (some (.ref 6)) 1 3600 (Ta w os) (piecesOf R9 Fk cT pA Nn)=some (.next,Tc w os,cT,pB):=by
 rw[PySem.W.Fast.te10110043849684766642,PySem.W.Fast.te14364793385576792824]
 kernel_rfl
end
noncomputable section
set_option maxRecDepth 100000
set_option maxHeartbeats 0
theorem Sg (w:World) (os:OsState):segRunT treeTable pw w 11 (some (.ref 6)) 1 3700 (Tc w os) (piecesOf Sb Fk cT pB Nn)=some (.next,Sf w os,cT,p1):=by
 rw[PySem.W.Fast.te10110043849684766642,PySem.W.Fast.te14364793385576792824]
 kernel_rfl
end
noncomputable section
set_option maxRecDepth 100000
set_option maxHeartbeats 0
theorem Mm (w:World) (os:OsState):topRun treeTable pw w 11 (some (.ref 6)) 100 (Sf w os).abs (restOf [] Fk cT p1 Nn)=some (Sf w os).abs:=by
 rw[PySem.W.Fast.te14082659384304107361,PySem.W.Fast.te14364793385576792824]
 kernel_rfl
theorem Mn (w:World) (os:OsState):Dh w.params (Sf w os).abs=true:=by kernel_rfl
theorem IX (w:World) (os:OsState):Kl (Sf w os).abs=openGood qv lL:=by kernel_rfl
theorem Mo (w:World) (os:OsState):KA.map (GM (Sf w os))=(KK w.params).map fun p=>some p.2:=by kernel_rfl
theorem runEnds:zv (fun r=>KA.map (GM r)) (fun P=>(KK P).map fun p=>some p.2):=by
 intro w os;refine⟨Sf w os,?_,by rw[GJ];exact Mn w os,(IR _).trans (IX w os),Mo w os⟩;have t1:=piece_app (q:=p0) (segRun_of (Sd w os)) (piece_app (q:=p0) (segRun_of (Se w os)) (piece_app (q:=p0) (segRun_of (Sg w os)) (Mm w os)));have e:R8++(R9++(Sb++[]))=yy:=by
  unfold R8 R9 Sb;rw[List.append_nil,List.take_append_drop,List.take_append_drop]
 rw[e] at t1;have tb:=piece_block (q:=p0) (GS w os) t1;have t0:=go_top (Ml w os) tb;rw[Mb] at t0;exact topRun_mono 87 _ _ _ _ t0
abbrev LU:=List UInt8
theorem bJ:type_of% @List.mem_cons_self:= @List.mem_cons_self
theorem a9:type_of% @List.length_map:= @List.length_map
theorem du:type_of% @List.mem_cons_of_mem:= @List.mem_cons_of_mem
theorem aJ:type_of% @wpAny_bind:= @wpAny_bind
theorem dK:type_of% @List.mem_singleton:= @List.mem_singleton
theorem bp:type_of% @List.mem_map:= @List.mem_map
theorem bq:type_of% @List.map_map:= @List.map_map
theorem eL:type_of% @List.mem_append:= @List.mem_append
theorem fF:type_of% @List.length_cons:= @List.length_cons
theorem dI:type_of% @List.map_cons:= @List.map_cons
theorem j7:type_of% @List.length_append:= @List.length_append
theorem qo:type_of% @Heap.get?_push_of_some:= @Heap.get?_push_of_some
theorem cS:type_of% @wpAny_pure:= @wpAny_pure
theorem dw:type_of% @wpAny_mono:= @wpAny_mono
theorem nG:type_of% @List.getElem?_map:= @List.getElem?_map
theorem nH:type_of% @Bool.and_eq_true:= @Bool.and_eq_true
theorem pj:type_of% @List.map_append:= @List.map_append
theorem ql:type_of% @Option.some.inj:= @Option.some.inj
theorem Bf:type_of% @List.getElem?_eq_getElem:= @List.getElem?_eq_getElem
theorem zy:type_of% @Nat.le_of_ble_eq_true:= @Nat.le_of_ble_eq_true
theorem xg:type_of% @beq_eq_false_iff_ne:= @beq_eq_false_iff_ne
theorem u9:type_of% @List.append_assoc:= @List.append_assoc
theorem zz:type_of% @List.mem_of_getElem?:= @List.mem_of_getElem?
theorem uw:type_of% @decide_eq_false:= @decide_eq_false
theorem zA:type_of% @Heap.get?_push_size:= @Heap.get?_push_size
theorem mU:type_of% @sizeLine_eq:= @sizeLine_eq
theorem ez:type_of% @Ne.symm:= @Ne.symm
theorem tq:type_of% @Nat.lt_trans:= @Nat.lt_trans
theorem Df:type_of% @Nat.lt_of_le_of_lt:= @Nat.lt_of_le_of_lt
theorem dr:type_of% @if_neg:= @if_neg
theorem yz:type_of% @decide_eq_true:= @decide_eq_true
theorem va:type_of% @Heap.lt_size:= @Heap.lt_size
theorem Bn:type_of% @List.any_eq_true:= @List.any_eq_true
theorem Bg:type_of% @List.nil_append:= @List.nil_append
theorem Bo:type_of% @List.append_nil:= @List.append_nil
theorem IN:type_of% @List.exists_cons_of_ne_nil:= @List.exists_cons_of_ne_nil
theorem eM:type_of% @if_pos:= @if_pos
theorem GF:type_of% @Array.getElem?_toList:= @Array.getElem?_toList
theorem GG:type_of% @List.map_congr_left:= @List.map_congr_left
theorem Di:type_of% @List.all_eq_true:= @List.all_eq_true
theorem Ey:type_of% @List.nodup_append:= @List.nodup_append
theorem Fl:type_of% @List.length_drop:= @List.length_drop
theorem GH:type_of% @of_decide_eq_true:= @of_decide_eq_true
theorem LX:type_of% @List.getElem?_eq_some_iff:= @List.getElem?_eq_some_iff
theorem Ez:type_of% @wpAny_holding:= @wpAny_holding
theorem IY:type_of% @List.mem_append_left:= @List.mem_append_left
theorem IO:type_of% @wpAny_loadPart_at:= @wpAny_loadPart_at
theorem Bh:type_of% @beq_iff_eq:= @beq_iff_eq
theorem GT:type_of% @List.nodup_cons:= @List.nodup_cons
theorem EA:type_of% @List.map_nil:= @List.map_nil
theorem LY:type_of% @List.length_singleton:= @List.length_singleton
theorem IZ:type_of% @List.pairwise_map:= @List.pairwise_map
theorem Bi:type_of% @eq_of_beq:= @eq_of_beq
theorem GU:type_of% @List.mem_cons:= @List.mem_cons
theorem Qb:type_of% @Option.map_eq_some_iff:= @Option.map_eq_some_iff
theorem Mp:type_of% @List.filter_cons:= @List.filter_cons
theorem Mq:type_of% @Bool.or_eq_true:= @Bool.or_eq_true
theorem No:type_of% @List.size_toArray:= @List.size_toArray
theorem Mr:type_of% @List.drop_left:= @List.drop_left
theorem Qc:type_of% @builtinLookup_eq_fast:= @builtinLookup_eq_fast
theorem LZ:type_of% @wpAny_of_eq:= @wpAny_of_eq
theorem QW:type_of% @List.isPrefixOf_iff_prefix:= @List.isPrefixOf_iff_prefix
set_option autoImplicit false
end
set_option hygiene false
local macro_rules | `(tactic| rw [$e:term]) => `(tactic| (first | refine rwt $e ?_ | refine rwt ($e _) ?_ | refine rwp $e ?_ | fail); try (with_reducible rfl))
local macro_rules | `(tactic| rw [← $e:term]) => `(tactic| (first | refine rws $e ?_ | refine rws ($e _) ?_ | refine rwq $e ?_ | fail); try (with_reducible rfl))
local macro_rules | `(tactic| rw [$r:rwRule, $rs,*]) => `(tactic| (rw [$r:rwRule]; rw [$rs,*]))
local macro_rules | `(tactic| change $t:term) => `(tactic| refine (?_ : $t))
local macro_rules | `(tactic| show $t:term) => `(tactic| refine $t)
local macro_rules | `(tactic| walk_at "v") => `(tactic| first | change _ ∧ _ | change Br .. | change AttrJ .. | change aa .. | change xo .. | change kP .. | change j9 .. | change zJ .. | change ik .. | change qt .. | change I1 .. | change cj .. | change eQ .. | change G8 .. | change MI .. | change iO .. | change vG .. | change DO .. | change EX .. | change wE .. | (conv => whnf))
local macro_rules | `(tactic| walk_at "w") => `(tactic| (walk_at "v"; repeat (first | (with_reducible refine Br.ff ?_; walk_at "v") | (with_reducible refine Br.tt ?_; walk_at "v"))))
local macro_rules | `(tactic| walk_at "ne") => `(tactic| first | assumption | exact Ne.symm (by assumption) | exact aR (by assumption) (by walk_at "look") | exact Ne.symm (aR (by assumption) (by walk_at "look")))
local macro_rules | `(tactic| walk_at "look") => `(tactic| first | assumption | exact AS.UJ | (refine (AS.UK (by walk_at "ne")).trans ?_; walk_at "look"))
local macro_rules | `(tactic| walk_at "at") => `(tactic| ((try (walk_at "w")); refine AttrJ.of (by walk_at "look") (by walk_at "look") rfl (by kernel_rfl) rfl ?_; (try (walk_at "w"))))
local macro_rules | `(tactic| walk_at "set") => `(tactic| ((try (walk_at "w")); refine j9.of (by walk_at "look") (by walk_at "look") (by kernel_rfl) (by exact Nat.le_of_ble_eq_true rfl) ?_; (try (walk_at "w"))))
local macro_rules | `(tactic| walk_at "go") => `(tactic| ((try (walk_at "w")); repeat (first | walk_at "at" | walk_at "set")))
local macro_rules | `(tactic| right) => `(tactic| walk_at "go")
local macro_rules | `(tactic| walk_at "b") => `(tactic| ((try (walk_at "w")); repeat (first | (refine Br.neg (by first | decide | rfl) ?_; (try (walk_at "w"))) | (refine Br.pos (by first | decide | rfl) ?_; (try (walk_at "w"))))))
local macro_rules | `(tactic| left) => `(tactic| walk_at "b")
local macro_rules | `(tactic| walk_at "bl") => `(tactic| first | exact Qe (by assumption) (by decide) | exact Qf (by assumption) (by decide) | exact Qg (by assumption) (by decide) | exact Qd (by decide) | exact Qi (by decide) | (apply Nat.add_le_add <;> walk_at "bl") | (apply Nat.mul_le_mul_left; walk_at "bl") | (apply Nat.div_le_div_right; walk_at "bl") | fail)
local macro_rules | `(tactic| walk_at "bd") => `(tactic| first | (apply Nat.add_le_add <;> walk_at "bd") | (apply Nat.mul_le_mul_left; walk_at "bd") | exact Qe (by assumption) (by decide) | exact Qf (by assumption) (by decide) | exact Qg (by assumption) (by decide) | exact Qd (by decide) | exact Qi (by decide) | (apply Nat.div_le_div_right; walk_at "bl") | (apply Nat.le_trans; (first | assumption | exact Nat.le_of_lt (by assumption) | exact Nat.le_of_eq (by assumption) | exact Mt (by assumption) | exact Qk (by assumption)); walk_at "bl") | (apply Nat.le_trans; (first | exact Nat.le_of_lt (by assumption) | exact Nat.le_of_eq (by assumption) | exact Mt (by assumption) | exact Qk (by assumption)); walk_at "bl") | (apply Nat.le_trans; (exact Nat.le_of_eq (by assumption)); walk_at "bl") | (apply Nat.le_trans; (first | exact Nat.le_of_lt (by assumption) | exact Nat.le_of_eq (by assumption) | assumption); apply Nat.le_trans; (first | assumption | exact Nat.le_of_lt (by assumption) | exact Nat.le_of_eq (by assumption) | exact Mt (by assumption)); walk_at "bl") | exact Sh (by assumption) (by decide) | exact Si (by assumption) (by decide) | fail)
local macro_rules | `(tactic| lia) => `(tactic| first | assumption | exact Nat.le_of_lt (by assumption) | with_reducible (first | (apply Ms; decide; walk_at "bd"; with_unfolding_all exact rfl) | (apply Qh; decide; walk_at "bd"; with_unfolding_all exact rfl) | (apply Sp; apply Qh; decide; walk_at "bd"; with_unfolding_all exact rfl) | exact Nat.add_sub_cancel_left _ _ | exact Qj (by assumption) | exact Sj (by assumption) | exact Nat.le_of_sub_eq_zero (by assumption) | exact Sk (by assumption) (by first | assumption | exact Nat.le_of_lt (by assumption)) | exact Nat.add_sub_of_le (by assumption) | exact Int.natCast_nonneg _ | exact Int.toNat_natCast _ | exact Int.ofNat_lt.mpr (by assumption) | exact Int.ofNat_lt.mp (by assumption) | exact Nat.mod_lt _ (by exact Nat.le_of_ble_eq_true rfl) | exact Nat.mod_eq_of_lt (by assumption) | exact Nat.sub_add_cancel (by assumption) | exact Mv (by assumption) | exact Ql (by assumption) | (apply Ms; decide; exact Mv (by assumption); with_unfolding_all exact rfl) | (apply Ms; decide; exact Ql (by assumption); with_unfolding_all exact rfl) | exact Nat.le_trans (Nat.add_le_add_right (by assumption) _) (Mv (by assumption)) | exact Nat.le_trans (by assumption) (Nat.le_trans (Nat.add_le_add_right (by assumption) _) (Nat.le_of_eq (Mu _ _ _))) | exact Nat.le_trans (by assumption) (Nat.le_of_eq (Mu _ _ _)) | exact Sl (by assumption) (by assumption) | exact Sm (by assumption) (by assumption) | exact So (by assumption) (by assumption) | exact Nat.le_succ_of_le (by assumption) | exact Nat.le_of_not_lt (by assumption) | exact Nat.le_of_not_le (by assumption) | exact Nat.add_le_add_left (Nat.mul_le_mul_left _ (by assumption)) _ | exact Nat.le_trans (Nat.le_of_eq (by assumption)) (by assumption) | exact Nat.le_trans (by assumption) (by assumption) | exact Nat.le_trans (by assumption) (Nat.add_le_add_left (Nat.le_add_right _ _) _) | fail) | fail)
set_option hygiene true
set_option tactic.hygienic false
noncomputable section
@[elab_as_elim] theorem rwt {α:Sort _} {a:α} {M:α->Prop} {b:α} (h:a=b) (p:M b):M a:=h▸p
@[elab_as_elim] theorem rws {α:Sort _} {a:α} {M:α->Prop} {b:α} (h:b=a) (p:M b):M a:=h▸p
@[elab_as_elim] theorem rwp {a:Prop} {M:Prop->Prop} {b:Prop} (h:a↔b) (p:M b):M a:=propext h▸p
@[elab_as_elim] theorem rwq {a:Prop} {M:Prop->Prop} {b:Prop} (h:b↔a) (p:M b):M a:=propext h▸p
theorem Qd {k:Nat} (w:Nat.beq k k=true):k<=k:=Nat.le_refl _
theorem Qe {a k:Nat} (h:a<=k) (w:Nat.beq k k=true):a<=k:=h
theorem Qf {a k:Nat} (h:a<k) (w:Nat.beq k k=true):a<=k:=Nat.le_of_lt h
theorem Qg {a k:Nat} (h:a=k) (w:Nat.beq k k=true):a<=k:=Nat.le_of_eq h
theorem Sh {a b k:Nat} (h:a+b<=k) (w:Nat.beq k k=true):a<=k:=Nat.le_trans (Nat.le_add_right _ _) h
theorem Si {a b k:Nat} (h:a+b<=k) (w:Nat.beq k k=true):b<=k:=Nat.le_trans (Nat.le_add_left _ _) h
theorem Ms {a b c:Nat} (w0:Nat.beq c c=true) (h:a<=b) (w:Nat.ble b c=true):a<=c:=Nat.le_trans h (zy w)
theorem Qh {a b c:Nat} (w0:Nat.beq c c=true) (h:a<=b) (w:Nat.blt b c=true):a<c:=Df h (zy w)
theorem Qi {a k:Nat} (w:Nat.beq k k=true):a%(k+1)<=k:=Nat.le_of_lt_succ (Nat.mod_lt _ (Nat.succ_pos _))
theorem Qj {D p r:Nat} (h:D-p=r+1):p<D:=Nat.sub_pos_iff_lt.mp (h▸Nat.succ_pos _)
theorem Sj {D p w r:Nat} (h:D-p=w+(r+1)):p<D:=Qj (r:=w+r) h
theorem Sk {D p x y:Nat} (h:D-p=x+y) (k:p<=D):p+x<=D:=(Nat.le_sub_iff_add_le' k).mp (h▸Nat.le_add_right x y)
theorem TE {a b c:Nat} (h:a+b<=c):a<=c:=Nat.le_trans (Nat.le_add_right _ _) h
theorem TF {a b c:Nat} (h:a+b<=c):b<=c:=Nat.le_trans (Nat.le_add_left _ _) h
theorem Mt {a b c:Nat} (h:a+b=c):a<=c:=h▸Nat.le_add_right _ _
theorem Qk {a b c:Nat} (h:a+b=c):b<=c:=h▸Nat.le_add_left _ _
theorem Mu (a b d:Nat):a+d+b=a+(b+d):=(Nat.add_right_comm a d b).trans (Nat.add_assoc a b d)
theorem Mv {a b c d:Nat} (h:a+(b+d)<=c):a+d+b<=c:=(Mu a b d).symm▸h
theorem Ql {a b c d:Nat} (h:a+(b+d)<=c):a+d<=c:=Nat.le_trans (Nat.add_le_add_left (Nat.le_add_left _ _) _) h
theorem Sl {n i N:Nat} (h:n+i=N) (k:i<N):n-1<n:=by omega
theorem Sm {n i N:Nat} (h:n+i=N) (k:i<N):n-1+(i+1)=N:=by omega
theorem So {n i N:Nat} (h:n+i=N) (k:¬i<N):i=N:=by omega
theorem Sp {a:Nat} (h:a<2^63):(a:Int)<2^63:=Int.ofNat_lt.mpr h
theorem aL {P0 P1:Prop} {G:Prop} (h:P0/\P1) (k:P0->P1->G):G:=k h.1 h.2
theorem GV {P0 P1 P2:Prop} {G:Prop} (h:P0/\P1/\P2) (k:P0->P1->P2->G):G:=k h.1 h.2.1 h.2.2
theorem ux {P0 P1 P2 P3:Prop} {G:Prop} (h:P0/\P1/\P2/\P3) (k:P0->P1->P2->P3->G):G:=k h.1 h.2.1 h.2.2.1 h.2.2.2
theorem Qm {P0 P1 P2 P3 P4:Prop} {G:Prop} (h:P0/\P1/\P2/\P3/\P4) (k:P0->P1->P2->P3->P4->G):G:=k h.1 h.2.1 h.2.2.1 h.2.2.2.1 h.2.2.2.2
theorem Sq {P0 P1 P2 P3 P4 P5:Prop} {G:Prop} (h:P0/\P1/\P2/\P3/\P4/\P5) (k:P0->P1->P2->P3->P4->P5->G):G:=k h.1 h.2.1 h.2.2.1 h.2.2.2.1 h.2.2.2.2.1 h.2.2.2.2.2
theorem Sr {P0 P1 P2 P3 P4 P5 P6 P7 P8:Prop} {G:Prop} (h:P0/\P1/\P2/\P3/\P4/\P5/\P6/\P7/\P8) (k:P0->P1->P2->P3->P4->P5->P6->P7->P8->G):G:=k h.1 h.2.1 h.2.2.1 h.2.2.2.1 h.2.2.2.2.1 h.2.2.2.2.2.1 h.2.2.2.2.2.2.1 h.2.2.2.2.2.2.2.1 h.2.2.2.2.2.2.2.2
theorem aw {α:Sort _} {P0:α->Prop} {G:Prop} (h:∃x,P0 x) (k:∀x,P0 x->G):G:=h.elim fun x h=>k x h
theorem ae {α:Sort _} {P0 P1:α->Prop} {G:Prop} (h:∃x,P0 x/\P1 x) (k:∀x,P0 x->P1 x->G):G:=h.elim fun x h=>k x h.1 h.2
theorem j8 {α:Sort _} {P0 P1 P2:α->Prop} {G:Prop} (h:∃x,P0 x/\P1 x/\P2 x) (k:∀x,P0 x->P1 x->P2 x->G):G:=h.elim fun x h=>k x h.1 h.2.1 h.2.2
theorem po {α:Sort _} {P0 P1 P2 P3:α->Prop} {G:Prop} (h:∃x,P0 x/\P1 x/\P2 x/\P3 x) (k:∀x,P0 x->P1 x->P2 x->P3 x->G):G:=h.elim fun x h=>k x h.1 h.2.1 h.2.2.1 h.2.2.2
theorem Qn {α:Sort _} {P0 P1 P2 P3 P4:α->Prop} {G:Prop} (h:∃x,P0 x/\P1 x/\P2 x/\P3 x/\P4 x) (k:∀x,P0 x->P1 x->P2 x->P3 x->P4 x->G):G:=h.elim fun x h=>k x h.1 h.2.1 h.2.2.1 h.2.2.2.1 h.2.2.2.2
theorem sn {α:Sort _} {β:Sort _} {P0:α->β->Prop} {G:Prop} (h:∃x y,P0 x y) (k:∀x y,P0 x y->G):G:=h.elim fun x h=>h.elim fun y h=>k x y h
theorem bQ {α:Sort _} {β:Sort _} {P0 P1:α->β->Prop} {G:Prop} (h:∃x y,P0 x y/\P1 x y) (k:∀x y,P0 x y->P1 x y->G):G:=h.elim fun x h=>h.elim fun y h=>k x y h.1 h.2
theorem aH {α:Sort _} {β:Sort _} {P0 P1 P2:α->β->Prop} {G:Prop} (h:∃x y,P0 x y/\P1 x y/\P2 x y) (k:∀x y,P0 x y->P1 x y->P2 x y->G):G:=h.elim fun x h=>h.elim fun y h=>k x y h.1 h.2.1 h.2.2
theorem I0 {α:Sort _} {β:Sort _} {P0 P1 P2 P3:α->β->Prop} {G:Prop} (h:∃x y,P0 x y/\P1 x y/\P2 x y/\P3 x y) (k:∀x y,P0 x y->P1 x y->P2 x y->P3 x y->G):G:=h.elim fun x h=>h.elim fun y h=>k x y h.1 h.2.1 h.2.2.1 h.2.2.2
theorem Ss {α:Sort _} {β:Sort _} {P0 P1 P2 P3 P4:α->β->Prop} {G:Prop} (h:∃x y,P0 x y/\P1 x y/\P2 x y/\P3 x y/\P4 x y) (k:∀x y,P0 x y->P1 x y->P2 x y->P3 x y->P4 x y->G):G:=h.elim fun x h=>h.elim fun y h=>k x y h.1 h.2.1 h.2.2.1 h.2.2.2.1 h.2.2.2.2
theorem Su {α:Sort _} {β:Sort _} {P0 P1 P2 P3 P4 P5:α->β->Prop} {G:Prop} (h:∃x y,P0 x y/\P1 x y/\P2 x y/\P3 x y/\P4 x y/\P5 x y) (k:∀x y,P0 x y->P1 x y->P2 x y->P3 x y->P4 x y->P5 x y->G):G:=h.elim fun x h=>h.elim fun y h=>k x y h.1 h.2.1 h.2.2.1 h.2.2.2.1 h.2.2.2.2.1 h.2.2.2.2.2
theorem Mw {α:Sort _} {β:Sort _} {P0 P1 P2 P3 P4 P5 P6:α->β->Prop} {G:Prop} (h:∃x y,P0 x y/\P1 x y/\P2 x y/\P3 x y/\P4 x y/\P5 x y/\P6 x y) (k:∀x y,P0 x y->P1 x y->P2 x y->P3 x y->P4 x y->P5 x y->P6 x y->G):G:=h.elim fun x h=>h.elim fun y h=>k x y h.1 h.2.1 h.2.2.1 h.2.2.2.1 h.2.2.2.2.1 h.2.2.2.2.2.1 h.2.2.2.2.2.2
theorem Qo {α:Sort _} {β:Sort _} {P0 P1 P2 P3 P4 P5 P6 P7:α->β->Prop} {G:Prop} (h:∃x y,P0 x y/\P1 x y/\P2 x y/\P3 x y/\P4 x y/\P5 x y/\P6 x y/\P7 x y) (k:∀x y,P0 x y->P1 x y->P2 x y->P3 x y->P4 x y->P5 x y->P6 x y->P7 x y->G):G:=h.elim fun x h=>h.elim fun y h=>k x y h.1 h.2.1 h.2.2.1 h.2.2.2.1 h.2.2.2.2.1 h.2.2.2.2.2.1 h.2.2.2.2.2.2.1 h.2.2.2.2.2.2.2
theorem Sv {α:Sort _} {β:Sort _} {γ:Sort _} {P0:α->β->γ->Prop} {G:Prop} (h:∃x y z,P0 x y z) (k:∀x y z,P0 x y z->G):G:=h.elim fun x h=>h.elim fun y h=>h.elim fun z h=>k x y z h
theorem Sw {α:Sort _} {β:Sort _} {γ:Sort _} {P0 P1:α->β->γ->Prop} {G:Prop} (h:∃x y z,P0 x y z/\P1 x y z) (k:∀x y z,P0 x y z->P1 x y z->G):G:=h.elim fun x h=>h.elim fun y h=>h.elim fun z h=>k x y z h.1 h.2
theorem eg {α:Sort _} {β:Sort _} {γ:Sort _} {P0 P1 P2:α->β->γ->Prop} {G:Prop} (h:∃x y z,P0 x y z/\P1 x y z/\P2 x y z) (k:∀x y z,P0 x y z->P1 x y z->P2 x y z->G):G:=h.elim fun x h=>h.elim fun y h=>h.elim fun z h=>k x y z h.1 h.2.1 h.2.2
theorem Mx {α:Sort _} {β:Sort _} {γ:Sort _} {P0 P1 P2 P3:α->β->γ->Prop} {G:Prop} (h:∃x y z,P0 x y z/\P1 x y z/\P2 x y z/\P3 x y z) (k:∀x y z,P0 x y z->P1 x y z->P2 x y z->P3 x y z->G):G:=h.elim fun x h=>h.elim fun y h=>h.elim fun z h=>k x y z h.1 h.2.1 h.2.2.1 h.2.2.2
theorem Qp {α:Sort _} {β:Sort _} {γ:Sort _} {P0 P1 P2 P3 P4:α->β->γ->Prop} {G:Prop} (h:∃x y z,P0 x y z/\P1 x y z/\P2 x y z/\P3 x y z/\P4 x y z) (k:∀x y z,P0 x y z->P1 x y z->P2 x y z->P3 x y z->P4 x y z->G):G:=h.elim fun x h=>h.elim fun y h=>h.elim fun z h=>k x y z h.1 h.2.1 h.2.2.1 h.2.2.2.1 h.2.2.2.2
theorem Qq {α:Sort _} {β:Sort _} {γ:Sort _} {δ:Sort _} {ε:Sort _} {P0 P1 P2:α->β->γ->δ->ε->Prop} {G:Prop} (h:∃x y z u v,P0 x y z u v/\P1 x y z u v/\P2 x y z u v) (k:∀x y z u v,P0 x y z u v->P1 x y z u v->P2 x y z u v->G):G:=h.elim fun x h=>h.elim fun y h=>h.elim fun z h=>h.elim fun u h=>h.elim fun v h=>k x y z u v h.1 h.2.1 h.2.2
theorem Sx {α:Sort _} {β:Sort _} {γ:Sort _} {δ:Sort _} {ε:Sort _} {P0 P1 P2 P3 P4:α->β->γ->δ->ε->Prop} {G:Prop} (h:∃x y z u v,P0 x y z u v/\P1 x y z u v/\P2 x y z u v/\P3 x y z u v/\P4 x y z u v) (k:∀x y z u v,P0 x y z u v->P1 x y z u v->P2 x y z u v->P3 x y z u v->P4 x y z u v->G):G:=h.elim fun x h=>h.elim fun y h=>h.elim fun z h=>h.elim fun u h=>h.elim fun v h=>k x y z u v h.1 h.2.1 h.2.2.1 h.2.2.2.1 h.2.2.2.2
theorem Sy {α:Sort _} {β:Sort _} {γ:Sort _} {δ:Sort _} {ε:Sort _} {P0 P1 P2 P3 P4 P5 P6:α->β->γ->δ->ε->Prop} {G:Prop} (h:∃x y z u v,P0 x y z u v/\P1 x y z u v/\P2 x y z u v/\P3 x y z u v/\P4 x y z u v/\P5 x y z u v/\P6 x y z u v) (k:∀x y z u v,P0 x y z u v->P1 x y z u v->P2 x y z u v->P3 x y z u v->P4 x y z u v->P5 x y z u v->P6 x y z u v->G):G:=h.elim fun x h=>h.elim fun y h=>h.elim fun z h=>h.elim fun u h=>h.elim fun v h=>k x y z u v h.1 h.2.1 h.2.2.1 h.2.2.2.1 h.2.2.2.2.1 h.2.2.2.2.2.1 h.2.2.2.2.2.2
theorem aS {α:Sort _} {P0 P1:α->Prop} (x:α) (h0:P0 x) (h1:P1 x):∃x,P0 x/\P1 x:=⟨x,h0,h1⟩
theorem Np {α:Sort _} {P0 P1 P2:α->Prop} (x:α) (h0:P0 x) (h1:P1 x) (h2:P2 x):∃x,P0 x/\P1 x/\P2 x:=⟨x,h0,h1,h2⟩
theorem Uh {α:Sort _} {P0 P1 P2 P3:α->Prop} (x:α) (h0:P0 x) (h1:P1 x) (h2:P2 x) (h3:P3 x):∃x,P0 x/\P1 x/\P2 x/\P3 x:=⟨x,h0,h1,h2,h3⟩
theorem Ui {α:Sort _} {P0 P1 P2 P3 P4:α->Prop} (x:α) (h0:P0 x) (h1:P1 x) (h2:P2 x) (h3:P3 x) (h4:P4 x):∃x,P0 x/\P1 x/\P2 x/\P3 x/\P4 x:=⟨x,h0,h1,h2,h3,h4⟩
theorem Uj {α:Sort _} {β:Sort _} {P0 P1:α->β->Prop} (x:α) (y:β) (h0:P0 x y) (h1:P1 x y):∃x y,P0 x y/\P1 x y:=⟨x,y,h0,h1⟩
theorem Uk {α:Sort _} {β:Sort _} {P0 P1 P2:α->β->Prop} (x:α) (y:β) (h0:P0 x y) (h1:P1 x y) (h2:P2 x y):∃x y,P0 x y/\P1 x y/\P2 x y:=⟨x,y,h0,h1,h2⟩
theorem Ul {α:Sort _} {β:Sort _} {P0 P1 P2 P3:α->β->Prop} (x:α) (y:β) (h0:P0 x y) (h1:P1 x y) (h2:P2 x y) (h3:P3 x y):∃x y,P0 x y/\P1 x y/\P2 x y/\P3 x y:=⟨x,y,h0,h1,h2,h3⟩
theorem xh {α:Sort _} {β:Sort _} {γ:Sort _} {P0 P1 P2:α->β->γ->Prop} (x:α) (y:β) (z:γ) (h0:P0 x y z) (h1:P1 x y z) (h2:P2 x y z):∃x y z,P0 x y z/\P1 x y z/\P2 x y z:=⟨x,y,z,h0,h1,h2⟩
theorem Um {α:Sort _} {β:Sort _} {γ:Sort _} {P0 P1 P2 P3:α->β->γ->Prop} (x:α) (y:β) (z:γ) (h0:P0 x y z) (h1:P1 x y z) (h2:P2 x y z) (h3:P3 x y z):∃x y z,P0 x y z/\P1 x y z/\P2 x y z/\P3 x y z:=⟨x,y,z,h0,h1,h2,h3⟩
theorem all_cons {α:Type _} {P:α->Prop} {a:α} {l:List α} (h:P a) (k:∀x,x∈l->P x):∀x,x∈a::l->P x:=fun x hx=>(GU.mp hx).elim (fun e=>e▸h) (k x)
theorem mV {α:Type _} {x a:α} {l:List α} (h:x∈a::l):a=x\/x∈l:=(GU.mp h).imp Eq.symm id
theorem aF {α:Type _} {P:α->Prop}:∀x,x∈([]:List α)->P x:=fun x h=>absurd h List.not_mem_nil
theorem xk {α:Sort _} {β:Sort _} {γ:Sort _} {δ:Sort _} {ε:Sort _} {P0 P1 P2 P3 P4 P5 P6 P7 P8:α->β->γ->δ->ε->Prop} {G:Prop} (h:∃x y z u v,P0 x y z u v/\P1 x y z u v/\P2 x y z u v/\P3 x y z u v/\P4 x y z u v/\P5 x y z u v/\P6 x y z u v/\P7 x y z u v/\P8 x y z u v) (k:∀x y z u v,P0 x y z u v->P1 x y z u v->P2 x y z u v->P3 x y z u v->P4 x y z u v->P5 x y z u v->P6 x y z u v->P7 x y z u v->P8 x y z u v->G):G:=h.elim fun x h=>h.elim fun y h=>h.elim fun z h=>h.elim fun u h=>h.elim fun v h=>k x y z u v h.1 h.2.1 h.2.2.1 h.2.2.2.1 h.2.2.2.2.1 h.2.2.2.2.2.1 h.2.2.2.2.2.2.1 h.2.2.2.2.2.2.2.1 h.2.2.2.2.2.2.2.2
inductive AV where
 | none | bool (b:Bool) | int (i:Int) | str (s:Str) | bytes (b:LU) | ref (a:Addr) | fn (id:String) | typ (n:String) | bad
noncomputable def er:Value->AV
 | .none=> .none | .bool b=> .bool b | .int i _=> .int i | .str s _=> .str s | .bytes b _=> .bytes b.toList
 | .ref a=> .ref a | .builtin i=> .fn i | .type n=> .typ n
 | .ellipsis=> .bad | .notImplemented=> .bad | .float _ _=> .bad
theorem AV.ne {P:Prop} {a b:AV} (h:a=b) (n:Nat.beq a.ctorIdx b.ctorIdx=false):P:=absurd (congrArg AV.ctorIdx h) (Nat.ne_of_beq_eq_false n)
theorem dU {v:Value} (h:er v= .none):v= .none:=by cases v<;>first | rfl | show AV.ne h rfl
theorem EB {v:Value} {b:Bool} (h:er v= .bool b):v= .bool b:=by cases v<;>first | show AV.ne h rfl | show congrArg Value.bool (AV.bool.inj h)
theorem aI {v:Value} {i:Int} (h:er v= .int i):∃t,v= .int i t:=by cases v<;>first | show AV.ne h rfl | show⟨_,congrArg (Value.int · _) (AV.int.inj h)⟩
theorem db {v:Value} {i:Str} (h:er v= .str i):∃t,v= .str i t:=by cases v<;>first | show AV.ne h rfl | show⟨_,congrArg (Value.str · _) (AV.str.inj h)⟩
theorem cN {v:Value} {i:LU} (h:er v= .bytes i):∃t,v= .bytes i.toArray t:=by
 cases v<;>first | show AV.ne h rfl | show⟨_,by have:=AV.bytes.inj h;subst this;rfl⟩
theorem ah {v:Value} {a:Addr} (h:er v= .ref a):v= .ref a:=by cases v<;>first | show AV.ne h rfl | show congrArg Value.ref (AV.ref.inj h)
theorem dL {v:Value} {a:String} (h:er v= .fn a):v= .builtin a:=by cases v<;>first | show AV.ne h rfl | show congrArg Value.builtin (AV.fn.inj h)
theorem eO {v:Value} {a:String} (h:er v= .typ a):v= .type a:=by cases v<;>first | show AV.ne h rfl | show congrArg Value.type (AV.typ.inj h)
inductive AK where
 | i (n:Int) | s (x:Str)
 deriving DecidableEq
noncomputable def AK.is:AK->Value->Bool
 | .i n,v=>Value.isInt n v
 | .s x,v=>Value.isStrOf x v
noncomputable def AK.av:AK->AV
 | .i n=> .int n
 | .s x=> .str x
theorem AK.is_er {k:AK} {v:Value} (h:k.is v=true):er v=k.av:=by
 cases k with
 | i n=>obtain⟨t,rfl⟩:=Value.isInt_shape h;rfl
 | s x=>obtain⟨t,rfl⟩:=Value.isStrOf_shape h;rfl
theorem AK.is_of {k:AK} {v:Value} (h:er v=k.av):k.is v=true:=by
 cases k with
 | i n=>obtain⟨t,rfl⟩:=aI h;simp [AK.is,Value.isInt]
 | s x=>obtain⟨t,rfl⟩:=db h;simp [AK.is,Value.isStrOf]
theorem AK.av_inj {a b:AK} (h:a.av=b.av):a=b:=by cases a<;>cases b<;>first | show AV.ne h rfl | show congrArg AK.i (AV.int.inj h) | show congrArg AK.s (AV.str.inj h)
theorem AK.dec_i (n m:Int):(n==m)=decide (AK.i n=AK.i m):=by rw[Bool.eq_iff_iff];simp
theorem AK.dec_s (x y:Str):decide (x=y)=decide (AK.s x=AK.s y):=zs
noncomputable def bS (Un:Program) (w:World):PySem.KeyKind Un w AK where
 is:=AK.is
 hash:=fun | .i n=>hashInt n | .s x=>hashStr w x
 inj:=fun v a b ha hb=>AK.av_inj ((AK.is_er ha).symm.trans (AK.is_er hb))
 byValue:=fun k v h=>by
  cases k with
  | i n=>obtain⟨t,rfl⟩:=Value.isInt_shape h;rfl
  | s x=>obtain⟨t,rfl⟩:=Value.isStrOf_shape h;rfl
 pyHash:=fun {A E s k v Q} hv h=>by
  cases k with
  | i n=>obtain⟨t,rfl⟩:=Value.isInt_shape hv;show wpAny_pyHash_int h
  | s x=>obtain⟨t,rfl⟩:=Value.isStrOf_shape hv;show wpAny_pyHash_str h
 eqBool:=fun {A E s a b u v Q} hu hv h=>by
  cases a with
  | i n=>
   obtain⟨t,rfl⟩:=Value.isInt_shape hu;cases b with
   | i m=>obtain⟨t',rfl⟩:=Value.isInt_shape hv;show wpAny_eqBool_int (by rw[AK.dec_i];show h)
   | s y=>obtain⟨t',rfl⟩:=Value.isStrOf_shape hv;show PySem.SeqAt.EqAt.int_str n t y t' Un w E _ (by simpa using h)
  | s x=>
   obtain⟨t,rfl⟩:=Value.isStrOf_shape hu;cases b with
   | i m=>obtain⟨t',rfl⟩:=Value.isInt_shape hv;show PySem.SeqAt.EqAt.str_int x t m t' Un w E _ (by simpa using h)
   | s y=>obtain⟨t',rfl⟩:=Value.isStrOf_shape hv;show wpAny_eqBool_str (by rw[AK.dec_s];show h)
 «strs»:=fun k x t v h=>by
  cases k with
  | i n=>simp [AK.is,Value.isInt] at h
  | s y=>show(strKind Un w).«strs» y x t v h
inductive Attr where
 | data | at | end_ | what | text | octets | isHex | head | number | generation | table | trailer | mark | items | way | one | two | entries | sections
 deriving DecidableEq
noncomputable def Attr.name:Attr->Str
 | .data=>"data" | .at=>"at" | .end_=>"end" | .what=>"what" | .text=>"text" | .octets=>"octets" | .isHex=>"is_hex" | .head=>"head" | .number=>"number" | .generation=>"generation"
 | .table=>"table" | .trailer=>"trailer" | .mark=>"mark" | .items=>"items" | .way=>"way" | .one=>"one" | .two=>"two" | .entries=>"entries" | .sections=>"sections"
inductive AO where
 | list (xs:List AV)
 | tup (xs:List AV)
 | dict (ep:Nat) (xs:List (AK×AV))
 | rng (a b c:Int)
 | inst (C N:Addr)
 | exc (C t:Addr) (N:Option Addr)
 | ns (m:List (Attr×AV))
noncomputable def lM:List (Attr×AV)->Attr->Option AV
 | [],_=>none
 | p::r,x=>if p.1=x then some p.2 else lM r x
noncomputable def eB:List (Attr×AV)->Attr->AV->List (Attr×AV)
 | [],x,v=>[(x,v)]
 | p::r,x,v=>if p.1=x then(x,v)::r else p::eB r x v
def bT:List DictEntry->List (Attr×AV)->Prop
 | [],[]=>True
 | e::es,p::m=>(∃t,e.key= .str p.1.name t)/\er e.val=p.2/\bT es m
 | _,_=>False
theorem bT.length:∀{es:List DictEntry} {m:List (Attr×AV)},bT es m->es.length=m.length
 | [],[],_=>rfl
 | _::_,[],h=>h.elim
 | [],_::_,h=>h.elim
 | e::es,p::m,h=>congrArg (· +1) (bT.length h.2.2)
noncomputable def Attr.find (s:Str):Option Attr:=
 ([.data,.at,.end_,.what,.text,.octets,.isHex,.head,.number,.generation,.table,.trailer,.mark,.items,.way,.one,.two,.entries,.sections]:List Attr).find? fun a=>decide (a.name=s)
theorem Attr.find_name (z:Attr):Attr.find z.name=some z:=by cases z<;>kernel_rfl
theorem Attr.name_inj (x y:Attr) (h:x.name=y.name):x=y:=by
 have e:=Attr.find_name x;rw[h,Attr.find_name y] at e;show(ql e).symm
theorem Attr.isStr (x y:Attr) (t:Tok):(Value.str x.name t).isStr y.name=decide (x=y):=by
 by_cases e:x=y
 . subst e;simp [Value.isStr]
 . rw[uw e];have e':x.name≠y.name:=fun q=>e (Attr.name_inj _ _ q);simpa [Value.isStr] using e'
theorem bT.find {x:Attr} {r:AV} {es:List DictEntry} {m:List (Attr×AV)} (h:bT es m) (q:lM m x=some r):∃e,es.find? (·.key.isStr x.name)=some e/\er e.val=r:=by
 induction es generalizing m with
 | nil=>
  cases m with
  | nil=>cases q
  | cons p m=>show h.elim
 | cons e es ih=>
  cases m with
  | nil=>show h.elim
  | cons p m=>
   obtain⟨⟨t,hk⟩,hv,h⟩:=h;unfold lM at q;rw[List.find?_cons,hk,Attr.isStr];by_cases z:p.1=x
   . rw[eM z] at q;cases q;rw[yz z];show⟨e,rfl,hv⟩
   . rw[dr z] at q;rw[uw z];show ih h q
theorem bT.put {hsh:Int} {t:Tok} {v:Value} {x:Attr} {es:List DictEntry} {m:List (Attr×AV)} (h:bT es m):bT (putL x.name hsh (.str x.name t) v es) (eB m x (er v)):=by
 induction es generalizing m with
 | nil=>
  cases m with
  | nil=>show⟨⟨t,rfl⟩,rfl,trivial⟩
  | cons p m=>show h.elim
 | cons e es ih=>
  cases m with
  | nil=>show h.elim
  | cons p m=>
   obtain⟨⟨t',hk⟩,hv,h⟩:=h;unfold putL eB;rw[hk,Attr.isStr];by_cases z:p.1=x
   . rw[yz z,eM rfl,eM z];show⟨⟨t',by rw[<-z]⟩,rfl,h⟩
   . rw[uw z,dr zd,dr z];show⟨⟨t',hk⟩,hv,ih h⟩
section
variable {Un:Program} {w:World}
def AO.Of (Un:Program) (w:World) (ob:Obj):AO->Prop
 | .list xs=>∃(vs:Array Value) (n:Nat),ob={cls:= .type "list",data:= .seq vs n}/\vs.toList.map er=xs
 | .tup xs=>∃(vs:Array Value) (n:Nat),ob={cls:= .type "tuple",data:= .seq vs n}/\vs.toList.map er=xs
 | .dict ep xs=>∃kvs es,(ob.ExactDict/\ob.data= .dict es ep/\KeysOf (bS Un w) es/\Pairs (bS Un w) es.toList kvs/\(kvs.map (·.1)).Nodup)/\kvs.map (fun p=>(p.1,er p.2))=xs
 | .rng a b c=>∃t u v,ob={cls:= .type "range",data:= .fields #[.int a t,.int b u,.int c v]}
 | .inst C N=>ob.cls= .ref C/\notCls ob=true/\ob.dict=some N/\ob.data= .plain
 | .exc C t N=>ob={cls:= .ref C,dict:=N,data:= .fields #[.ref t,.none,.none,.none,.bool false,.none]}
 | .ns m=>∃es n,ob=dictOf es n/\bT es m
structure Fz where
 f:Addr->Option Obj
 os:OsState
abbrev AS:=Addr->Option AO
noncomputable def AS.set (σ:AS) (a:Addr) (o:AO):AS:=fun b=>if b=a then some o else σ b
theorem AS.UJ {σ:AS} {a:Addr} {o:AO}:(σ.set a o) a=some o:=eM rfl
theorem AS.UK {σ:AS} {a b:Addr} {o:AO} (h:b≠a):(σ.set a o) b=σ b:=dr h
def vn (s s':Shared):Prop:=s'.os=s.os/\s'.gens=s.gens
structure RS (Un:Program) (w:World) (g:Fz) (σ:AS) (s:Shared):Prop where
 keep:∀b o,g.f b=some o->s.heap.get? b=some o
 own:∀a o,σ a=some o->g.f a=none/\∃ob,s.heap.get? a=some ob/\AO.Of Un w ob o
 calm:s.os=g.os/\s.gens= #[]
variable {g:Fz} {σ:AS} {s s':Shared}
theorem RS.ext (x:RS Un w g σ s) (k:∀b o,s.heap.get? b=some o->s'.heap.get? b=some o) (q:vn s s':=by show⟨rfl,rfl⟩):RS Un w g σ s':=
 ⟨fun b o e=>k b o (x.keep b o e),fun a o e=>let ⟨q,ob,p,r⟩:=x.own a o e;⟨q,ob,k a ob p,r⟩,q.1.trans x.calm.1,q.2.trans x.calm.2⟩
theorem RS.none_of (x:RS Un w g σ s) {a:Addr} (e:s.heap.get? a=none):g.f a=none:=by
 cases q:g.f a with
 | none=>rfl
 | some o=>rw[x.keep a o q] at e;cases e
theorem RS.free_of (x:RS Un w g σ s) {a:Addr} (e:s.heap.get? a=none):σ a=none:=by
 cases q:σ a with
 | none=>rfl
 | some o=>obtain⟨_,ob,p,_⟩:=x.own a o q;rw[p] at e;cases e
theorem RS.put (x:RS Un w g σ s) {a:Addr} {ob:Obj} {o:AO} (hg:g.f a=none) (k:Heap.ExtBut a s.heap s'.heap) (e:s'.heap.get? a=some ob) (r:AO.Of Un w ob o) (q:vn s s':=by show⟨rfl,rfl⟩):RS Un w g (σ.set a o) s':=
 ⟨fun b o' q=>k b o' (fun z=>by rw[z,hg] at q;cases q) (x.keep b o' q),fun b o' q=>by
  by_cases z:b=a
  . subst z;rw[AS.UJ] at q;cases q;show⟨hg,ob,e,r⟩
  . rw[AS.UK z] at q;obtain⟨q1,ob',q2,q3⟩:=x.own b o' q;show⟨q1,ob',k b ob' z q2,q3⟩,q.1.trans x.calm.1,q.2.trans x.calm.2⟩
theorem RS.new (x:RS Un w g σ s) {a:Addr} {ob:Obj} {o:AO} (hn:s.heap.get? a=none) (k:∀b o,s.heap.get? b=some o->s'.heap.get? b=some o) (e:s'.heap.get? a=some ob) (r:AO.Of Un w ob o) (q:vn s s':=by show⟨rfl,rfl⟩):RS Un w g (σ.set a o) s':=
 x.put (x.none_of hn) (fun b o _ q=>k b o q) e r q
noncomputable def hide (σ:AS) (s:Shared):Fz:=⟨fun b=>match σ b with | some _=>none | none=>s.heap.get? b,s.os⟩
theorem bH {σ:AS} {s:Shared} {b:Addr} (h:σ b=none):(Mine.hide σ s).f b=s.heap.get? b:=by
 change(match σ b with | some _=>none | none=>s.heap.get? b)=_;rw[h]
theorem yA {σ:AS} {s:Shared} {b:Addr} {o:AO} (h:σ b=some o):(Mine.hide σ s).f b=none:=by
 change(match σ b with | some _=>none | none=>s.heap.get? b)=_;rw[h]
theorem RS.hide (x:RS Un w g σ s):RS Un w (Mine.hide σ s) σ s:=
 ⟨fun b o e=>by
  cases q:σ b with
  | some _=>rw[yA q] at e;cases e
  | none=>rw[bH q] at e;show e,fun a o e=>⟨yA e,(x.own a o e).2⟩,rfl,x.calm.2⟩
theorem RS.unhide {UH:AS} (x:RS Un w g σ s) (y:RS Un w (Mine.hide σ s) UH s'):RS Un w g UH s':=
 have k:∀b o,g.f b=some o->(Mine.hide σ s).f b=some o:=fun b o e=>by
  cases q:σ b with
  | none=>rw[bH q];show x.keep b o e
  | some o'=>rw[(x.own b o' q).1] at e;cases e
 ⟨fun b o e=>y.keep b o (k b o e),fun a o e=>⟨by
  cases q:g.f a with
  | none=>rfl
  | some o'=>show absurd ((y.own a o e).1.symm.trans (k a o' q)) nofun,(y.own a o e).2⟩,y.calm.1.trans x.calm.1,y.calm.2⟩
end
abbrev aO:=List (Option AV)
def GW (names:List Str) (loc:aO) (m:Str->Option Value):Prop:=∀(i:Nat) (x:Str),names[i]?=some x->(m x).map er=(loc[i]?).join
end
set_option tactic.hygienic true
noncomputable section
noncomputable def da (A:Around) (k:Nat):Prop:=A.depth+4*k<recursionLimit/\A.units+16*k<cLine
structure PW where
 p:Program
 w:World
 b:Heap
structure Dj (Ω:PW) (mg mb:Str->Option Value):Prop where
 inK:(KK Ω.w.params).In Ω.b
 top:TopRead qv (looseW qv lL) mg mb Ω.b
structure eD (Uo:Heap) (Up:List Env) (g:Fz):Prop where
 keeps:∀b o,Uo.get? b=some o->g.f b=some o
 frames:∀env∈Up,env.scope.kind≠.module/\∃L o,env.frame=some L/\Uo.get? L=none/\g.f L=some o/\∀vs,o.data≠.fields vs
 mods:∃o,g.f sysModules=some o
noncomputable def GX (Uo:Heap) (l:List Env) (a:Addr) (C a0:Value) (h:Heap):Prop:=
 Uo.StaysIn h/\Uo.get? a=none/\h.FunFrames Uo l/\((∃oe vs,h.get? a=some oe/\oe.cls=C/\oe.data= .fields vs/\vs[0]?=some a0/\vs[1]?=some .none)\/h.TracedW Uo a C a0\/
  ∃env r L,l=env::r/\env.frame=some L/\h.TracedAtW Uo a C a0 (rawInt L))
noncomputable def so (g:Fz) (h:Heap):Prop:=∀b o,g.f b=some o->(∀vs,o.data≠.fields vs)->∃sl,h.get? b=some {o with slots:=sl}
theorem so.step {g:Fz} {h h':Heap} (x:so g h) (y:h.UpToSlots h'):so g h':=fun b o e hn=>by
 show aw (x b o e hn) fun sl e1=>?_;show aw (y b _ e1 hn) fun sl' e2=>?_;show⟨sl',e2⟩
noncomputable def aM (Uo:Heap) (l:List Env) (X:AV->AV->Prop) (g:Fz) (e:Value) (s:Shared):Prop:=
 ∃a C a0 N f,e= .ref a/\GX Uo l a C a0 s.heap/\(∃o,s.heap.get? a=some o/\o.dict=some N)/\(Uo.get? N=none/\∀env∈l,env.frame≠some N)/\s.heap.Ns N f/\(∃v,f "at"=some v/\X (er C) (er v))/\s.os=g.os/\s.gens= #[]/\so g s.heap
theorem aM.weak {Uo:Heap} {l:List Env} {X:AV->AV->Prop} {g g':Fz} {e:Value} {s:Shared} (T:aM Uo l X g e s) (ho:g.os=g'.os) (hk:∀b o,g'.f b=some o->g.f b=some o):aM Uo l X g' e s:=by
 show xk T fun a C a0 N f h1 h2 h3 h4 h5 h6 h7 h8 h9=>?_;show⟨a,C,a0,N,f,h1,h2,h3,h4,h5,h6,h7.trans ho,h8,fun b o q=>h9 b o (hk b o q)⟩
noncomputable abbrev aG:=AV->AS->Prop
noncomputable abbrev cC:=AV->AV->Prop
structure lN (Ω:PW) (k:Nat) (f:AV) (vs:List AV) (σ:AS) (u:AV):Prop where
 run:∀(A:Around) (Up:List Env) (g:Fz) (s:Shared) (fv:Value) (vv:List Value),A.frames=some Up->A.handled=none->da A k->eD Ω.b Up g->RS Ω.p Ω.w g σ s->er fv=f->vv.map er=vs->
  wpAny (model Ω.p Ω.w) A (call fv vv) (fun r s'=>er r=u/\Ω.b.StaysIn s'.heap/\s'.os=g.os/\s'.gens= #[]/\so g s'.heap) (fun _ _=>False) s
noncomputable def tu (Ω:PW) (σ:AS) (p:Addr) (o:AO):Prop:=σ p=some o\/∃ob,Ω.b.get? p=some ob/\AO.Of Ω.p Ω.w ob o
noncomputable abbrev Th:=PW×(Str->Option Value)×(Str->Option Value)
noncomputable def EC (t:Th):Prop:=Dj t.1 t.2.1 t.2.2->∀(p:Addr) (ns:List Int),tu t.1 (fun _=>none) p (.list (ns.map .int))->ns.length<=1000->lN t.1 16 (.ref 1877) [.ref p] (fun _=>none) (.bool true)
theorem Qr:Nonempty Th:=⟨⟨default,⟨fun _ _=>0,{strHash:=fun _=>0,shareClass:=fun _=>0,mergeTok:=id,idOf:=fun _=>0,idOfShared:=fun _ _=>0,followText:=fun _=>false,idOfImm:=fun _=>0}⟩,default⟩,fun _=>none,fun _=>none⟩
@[irreducible] noncomputable def theta:Th:= @Classical.epsilon _ Qr fun t=>¬EC t
@[irreducible] noncomputable def Ω:PW:=theta.1
@[irreducible] noncomputable def mg:Str->Option Value:=theta.2.1
@[irreducible] noncomputable def mb:Str->Option Value:=theta.2.2
noncomputable abbrev WW:Prop:=Dj Ω mg mb
theorem My (h:WW->∀(p:Addr) (ns:List Int),tu Ω (fun _=>none) p (.list (ns.map .int))->ns.length<=1000->lN Ω 16 (.ref 1877) [.ref p] (fun _=>none) (.bool true)) (t:Th):EC t:=by
 show Classical.byContradiction fun q=>?_;have z:¬EC theta:=by
  unfold theta;show Classical.epsilon_spec (p:=fun t=>¬EC t) ⟨t,q⟩
 show z ?_;unfold WW Ω mg mb at h;show h
structure aa (k:Nat) (f:AV) (vs:List AV) (σ:AS) (Q:aG) (X:cC):Prop where
 run:∀(A:Around) (Up:List Env) (g:Fz) (s:Shared) (fv:Value) (vv:List Value),A.frames=some Up->A.handled=none->da A k->eD Ω.b Up g->RS Ω.p Ω.w g σ s->er fv=f->vv.map er=vs->
  wpAny (model Ω.p Ω.w) A (call fv vv) (fun r s'=>∃UH,RS Ω.p Ω.w g UH s'/\Q (er r) UH) (aM Ω.b Up X g) s
structure MA (k:Nat) {α:Type} (m:Sem α) (σ:AS) (Q:α->AS->Prop) (X:cC):Prop where
 run:∀(A:Around) (Up:List Env) (g:Fz) (s:Shared),A.frames=some Up->A.handled=none->da A k->eD Ω.b Up g->RS Ω.p Ω.w g σ s->
  wpAny (model Ω.p Ω.w) A m (fun r s'=>∃UH,RS Ω.p Ω.w g UH s'/\Q r UH) (aM Ω.b Up X g) s
structure Br (b:Bool) (x y:Prop):Prop where
 t:b=true->x
 f:b=false->y
theorem Br.ff {x y:Prop} (h:y):Br false x y:=⟨nofun,fun _=>h⟩
theorem Br.tt {x y:Prop} (h:x):Br true x y:=⟨fun _=>h,nofun⟩
theorem Br.dec {p:Prop} [Decidable p] {x y:Prop} (h1:p->x) (h2:¬p->y):Br (decide p) x y:=⟨fun e=>h1 (GH e),fun e=>h2 (of_decide_eq_false e)⟩
theorem Br.pos {b:Bool} {x y:Prop} (e:b=true) (h:x):Br b x y:=⟨fun _=>h,fun q=>absurd (e.symm.trans q) nofun⟩
theorem Br.neg {b:Bool} {x y:Prop} (e:b=false) (h:y):Br b x y:=⟨fun q=>absurd (e.symm.trans q) nofun,fun _=>h⟩
structure cj (k:Nat) (f:Value->Value->Sem Value) (a b:AV) (σ:AS) (Q:aG) (X:cC):Prop where
 run:∀u v,er u=a->er v=b->MA k (f u v) σ (fun r=>Q (er r)) X
structure I1 (k:Nat) {α:Type} (f:Value->Sem α) (a:AV) (σ:AS) (Q:α->AS->Prop) (X:cC):Prop where
 run:∀u,er u=a->MA k (f u) σ Q X
noncomputable def bw (w:World):AV->Prop
 | .ref a=>keepIn (KK w.params) (.ref a)=true
 | .fn _=>True
 | .typ _=>True
 | _=>False
structure GE where
 x:Str
 u:Value
 v:(∀P,nsIn (KK P) mainGlobals x=some (some u))\/(((∀P,nsIn (KK P) mainGlobals x=some none)/\bootBuiltins x=some u)/\x≠"__name__")
 cb:Bool
 cl:cb=true->∀w,bw w (er u)
theorem ff {p:Prop} (h:false=true):p:=nomatch h
def QX (sc:Scope) (x:Str):Bool:=(match sc.names.lookup x with | some .globalImplicit=>true | _=>false)&&!(x==("__debug__":Str))
theorem Qs {sc:Scope} {x:Str} (h:QX sc x=true):sc.names.lookup x=some .globalImplicit:=by
 have:=(nH _ _▸h:_/\_).1;cases q:sc.names.lookup x with
 | none=>rw[q] at this;show ff this
 | some kd=>
  rw[q] at this;cases kd<;>first | rfl | show ff this
theorem Qt {sc:Scope} {x:Str} (h:QX sc x=true):(x==("__debug__":Str))=false:=by
 have:=(nH _ _▸h:_/\_).2;simpa using this
noncomputable abbrev gd (b:Bool) (p:Prop):Prop:=match b with
 | true=>p
 | false=>False
theorem gh {b:Bool} {p:Prop} (h:gd b p):b=true/\p:=by
 cases b
 . show h.elim
 . show⟨rfl,h⟩
structure Fn where
 name:Str
 scope:Scope
 names:List Str
 kinds:List NameKind
 comp:Bool
 fn:scope.kind= .function
 nd:names.Nodup
 kind_:∀(i:Nat) (x:Str),names[i]?=some x->∃kd,kinds[i]?=some kd/\scope.names.lookup x=some kd/\(kd= .local\/kd= .cell)
 nodebug:∀x∈names,(x==("__debug__":Str))=false
 gs:List GE
 gok:∀g∈gs,QX scope g.x=true
noncomputable def pp (sc:Scope) (L:Addr) (cells:List (Str×Addr)) (qual:Str) (fn:Option Addr) (cd:Value) (fr:Option Addr):Env:=
 {scope:=sc,locals:=L,globals:=mainGlobals,cells:=cells,qual:=qual,func:=fn,code:=cd,frame:=fr,builtins:=builtinsNs}
structure Cx (F:Fn) where
 A:Around
 all:List Env
 g:Fz
 L:Addr
 cells:List (Str×Addr)
 qual:Str
 func:Option Addr
 cd:Value
 fr:Option Addr
 world:WW
 frames:A.frames=some all
 handled:A.handled=none
 keeps:∀b o,Ω.b.get? b=some o->g.f b=some o
 stack:∀env∈all,env.scope.kind≠.module/\∃Lf,env.frame=some Lf/\Ω.b.get? Lf=none/\(Lf=L\/∃o,g.f Lf=some o/\∀vs,o.data≠.fields vs)
 mods:∃o,g.f sysModules=some o
 fresh:g.f L=none
 apart:cells.Pairwise fun x y=>x.2≠y.2
 cellL:∀x ca,cells.lookup x=some ca->ca≠L
 cellg:F.comp=false->∀x ca,cells.lookup x=some ca->g.f ca=none
 top:F.comp=false->∃r,all=pp F.scope L cells qual func cd fr::r/\fr=some L
variable {F:Fn}
noncomputable def Cx.env (c:Cx F):Env:=pp F.scope c.L c.cells c.qual c.func c.cd c.fr
noncomputable def ct (h:Heap) (m:Str->Option Value) (cells:List (Str×Addr)) (kd:NameKind) (x:Str) (v:Option AV):Prop:=
 if kd= .cell then∃ca vo,cells.lookup x=some ca/\h.IsCell ca vo/\vo.map er=v else(m x).map er=v
structure St (c:Cx F) (loc:aO) (σ:AS) (s:Shared):Prop where
 ns:∃m,s.heap.Ns c.L m/\∀(i:Nat) (x:Str) (kd:NameKind),F.names[i]?=some x->F.kinds[i]?=some kd->ct s.heap m c.cells kd x (loc[i]?).join
 len:loc.length=F.names.length
 rs:RS Ω.p Ω.w c.g σ s
 no:σ c.L=none
 noc:∀x ca,c.cells.lookup x=some ca->σ ca=none/\∃o,s.heap.get? ca=some o
noncomputable def Qu:Expr->Nat
 | .Starred .. =>1
 | .Slice .. =>2
 | .Set .. =>3
 | .ListComp .. =>4
 | .SetComp .. =>4
 | .DictComp .. =>4
 | .UnaryOp .Not _ _=>5
 | .BoolOp .. =>5
 | .IfExp .. =>5
 | .Compare .. =>5
 | .Tuple .. =>6
 | _=>0
def Dk (e:Expr):Bool:=Qu e==0 || Nat.blt 3 (Qu e)
noncomputable abbrev EP (c:Cx F) (l:aO) (Q:aG):Value->Shared->Prop:=fun v s'=>∃UH,St c l UH s'/\Q (er v) UH
noncomputable abbrev EQ (c:Cx F) (l:aO) {α:Type} (Q:α->AS->Prop):α->Shared->Prop:=fun v s'=>∃UH,St c l UH s'/\Q v UH
theorem ct.keeps {h h':Heap} {m:Str->Option Value} {cells:List (Str×Addr)} {kd:NameKind} {x:Str} {v:Option AV} (V:ct h m cells kd x v)
 (hk:∀y ca,cells.lookup y=some ca->∀o,h.get? ca=some o->h'.get? ca=some o):ct h' m cells kd x v:=by
 unfold ct at V⊢;split
 . rename_i e;rw[eM e] at V;obtain⟨ca,vo,h1,⟨o,ho,hd⟩,h3⟩:=V;show⟨ca,vo,h1,⟨o,hk _ _ h1 o ho,hd⟩,h3⟩
 . rename_i e;rw[dr e] at V;show V
structure CE (F:Fn) where
 e:Expr
 pl:Dk e=true:=by rfl
 tr:Nat->aO->AS->aG->cC->Prop
 ok:∀(c:Cx F) (k:Nat) (loc:aO) (σ:AS) (s:Shared) (Q:aG) (X:cC),da c.A k->St c loc σ s->tr k loc σ Q X->
  wpAny (model Ω.p Ω.w) c.A (eval e c.env) (EP c loc Q) (aM Ω.b c.all X c.g) s
inductive QY where
 | next | ret (v:AV) | brk | cont
noncomputable def fl:Flow->Option QY
 | .next=>some .next
 | .ret v=>some (.ret (er v))
 | .brk=>some .brk
 | .cont=>some .cont
noncomputable abbrev ax:=QY->aO->AS->Prop
noncomputable abbrev SP (c:Cx F) (Q:ax):Flow->Shared->Prop:=fun f s'=>∃f' loc' UH,fl f=some f'/\St c loc' UH s'/\Q f' loc' UH
theorem gH {M:Model} {A:Around} {α β:Type} {m:Sem α} {S:β->Shared->Prop} {Q:α->β->Prop} {Q':α->Shared->Prop} {E:Value->Shared->Prop} {s:Shared} (h:wpAny M A m (fun v s'=>∃UH,S UH s'/\Q v UH) E s) (k:∀v UB Uv,S Uv UB->Q v Uv->Q' v UB):wpAny M A m Q' E s:=
 dw h (fun v UB hp=>ae hp fun Uv Uz UE=>k v UB Uv Uz UE) fun _ _ e=>e
structure CB (F:Fn) where
 b:List Stmt
 tr:Nat->aO->AS->ax->cC->Prop
 ok:∀(c:Cx F) (k:Nat) (loc:aO) (σ:AS) (s:Shared) (Q:ax) (X:cC),da c.A k->St c loc σ s->tr k loc σ Q X->
  wpAny (model Ω.p Ω.w) c.A (execs b c.env) (SP c Q) (aM Ω.b c.all X c.g) s
noncomputable def I5 (l:aO) (i:Nat) (Q:AV->Prop):Prop:=match (l[i]?).join with
 | some v=>Q v
 | none=>False
theorem ED {l:aO} {i:Nat} {Q:AV->Prop} (h:I5 l i Q):∃v,(l[i]?).join=some v/\Q v:=by
 unfold I5 at h;split at h
 . show(aS _ (by assumption) h)
 . show h.elim
theorem St.live {c:Cx F} {l:aO} {σ:AS} {s:Shared} (S:St c l σ s):∃o,s.heap.get? c.L=some o/\∀vs,o.data≠.fields vs:=by
 obtain⟨m,⟨o,es,ep,ho,hd,_⟩,_⟩:=S.ns;show⟨o,ho,fun vs q=>by rw[hd] at q;cases q⟩
theorem RS.keepG {g:Fz} {σ:AS} {s:Shared} (r:RS Ω.p Ω.w g σ s) {b:Addr} {o:Obj} (e:g.f b=some o):(Mine.hide σ s).f b=some o:=by
 cases q:σ b with
 | none=>rw[bH q];show r.keep b o e
 | some o'=>show absurd ((r.own b o' q).1.symm.trans e) nofun
theorem St.keepG {c:Cx F} {l:aO} {σ:AS} {s:Shared} (S:St c l σ s) {b:Addr} {o:Obj} (e:c.g.f b=some o):(Mine.hide σ s).f b=some o:=S.rs.keepG e
theorem St.outer {c:Cx F} {l:aO} {σ:AS} {s:Shared} (S:St c l σ s):eD Ω.b c.all (Mine.hide σ s):=by
 show⟨fun b o e=>S.keepG (c.keeps b o e),fun env he=>?_,?_⟩
 . obtain⟨h1,Lf,h2,h3,h4⟩:=c.stack env he;rcases h4 with rfl | ⟨o,h4,h5⟩
   . show ae S.live fun o ho hf=>?_;show⟨h1,c.L,o,h2,h3,by rw[bH S.no];show ho,hf⟩
   . show⟨h1,Lf,o,h2,h3,S.keepG h4,h5⟩
 . show aw c.mods fun o e'=>?_;show⟨o,S.keepG e'⟩
theorem St.after {c:Cx F} {l:aO} {σ UH:AS} {s s':Shared} (S:St c l σ s) (r:RS Ω.p Ω.w (Mine.hide σ s) UH s'):St c l UH s':=by
 have stay:∀b,σ b=none->(∃o,s.heap.get? b=some o)->UH b=none:=fun b hb ⟨o,ho⟩=>by
  cases q:UH b with
  | none=>rfl
  | some o'=>
   have e:(Mine.hide σ s).f b=some o:=by rw[bH hb];show ho
   show absurd ((r.own b o' q).1.symm.trans e) nofun
 show ae S.ns fun m hn hl=>?_;show ae S.live fun o ho _=>?_;have kc:∀y ca,c.cells.lookup y=some ca->∀o,s.heap.get? ca=some o->s'.heap.get? ca=some o:=fun y ca hm o ho=>r.keep _ _ (by rw[bH (S.noc y ca hm).1];show ho);show⟨⟨m,hn.at' fun o ho=>r.keep _ _ (by rw[bH S.no];show ho),fun i x kd h1 h2=>(hl i x kd h1 h2).keeps kc⟩,
  S.len,S.rs.unhide r,stay _ S.no ⟨o,ho⟩,fun x ca hm=>⟨stay _ (S.noc x ca hm).1 (S.noc x ca hm).2,let ⟨o,ho⟩:=(S.noc x ca hm).2;⟨o,kc x ca hm o ho⟩⟩⟩
theorem RS.but {g:Fz} {σ:AS} {a:Addr} {s s':Shared} (r:RS Ω.p Ω.w g σ s) (hg:g.f a=none) (hσ:σ a=none) (e:Heap.ExtBut a s.heap s'.heap) (q:vn s s':=by show⟨rfl,rfl⟩):RS Ω.p Ω.w g σ s':=
 ⟨fun b o q=>e b o (fun z=>by rw[z,hg] at q;cases q) (r.keep b o q),fun b o q=>let ⟨q1,ob,q2,q3⟩:=r.own b o q;⟨q1,ob,e b ob (fun z=>by rw[z,hσ] at q;cases q) q2,q3⟩,q.1.trans r.calm.1,q.2.trans r.calm.2⟩
theorem MA.lift {c:Cx F} {k:Nat} {l:aO} {σ:AS} {s:Shared} {α:Type} {m:Sem α} {Q:α->AS->Prop} {X:cC} (R:da c.A k) (S:St c l σ s) (J:MA k m σ Q X):
 wpAny (model Ω.p Ω.w) c.A m (EQ c l Q) (aM Ω.b c.all X c.g) s:=
 dw (J.run c.A c.all (Mine.hide σ s) s c.frames c.handled R S.outer S.rs.hide) (fun v UC hp=>ae hp fun Uw r₂ q=>(aS Uw (S.after r₂) q)) fun _ _ e=>e.weak S.rs.calm.1 fun b o q=>S.keepG q
theorem aa.do {k:Nat} {f:AV} {vs:List AV} {σ:AS} {Q:aG} {X:cC} (J:aa k f vs σ Q X) {fv:Value} {vv:List Value} (h1:er fv=f) (h2:vv.map er=vs):MA k (call fv vv) σ (fun r=>Q (er r)) X:=
 ⟨fun A Up g s a b c d e=>J.run A Up g s fv vv a b c d e h1 h2⟩
theorem St.tok {c:Cx F} {l:aO} {σ:AS} {s:Shared} (S:St c l σ s) {t:Nat}:St c l σ {s with toks:=t}:=⟨S.ns,S.len,S.rs.ext fun _ _ e=>e,S.no,S.noc⟩
theorem RS.tok {g:Fz} {σ:AS} {s:Shared} (r:RS Ω.p Ω.w g σ s) {t:Nat}:RS Ω.p Ω.w g σ {s with toks:=t}:=r.ext fun _ _ e=>e
theorem GY (e:Expr) (r:List Expr) (env:Env) (h:Dk e=true):starEach (e::r) env=(false,eval e env)::starEach r env:=by
 cases e<;>first | rfl | show ff h
theorem eh (pos:Pos):∀(xs:List (CE F)) (env:Env),backTo pos (starEach (xs.map (·.e)) env)=xs.map fun x=>(false,eval x.e env)
 | [],_=>rfl
 | x::r,env=>by
  rw[dI,GY x.e _ env x.pl];change(false,eval x.e env)::backTo pos (starEach (r.map (·.e)) env)=_;rw[eh pos r env,dI]
theorem Fm (y:CE F) (o i:Value):subscripted y.e false o i=operate [o,i] (getItem o i):=by
 have h:=y.pl;generalize y.e=e at h;cases e<;>first | rfl | show ff h
theorem gi (op:CmpOp) (y:CE F):behindInMarks op y.e=false:=by
 have h:=y.pl;generalize y.e=e at h;cases e<;>first | rfl | show ff h
noncomputable def vp (F:Fn) (i:Nat):Str:=(F.names[i]?).getD ""
noncomputable def qp (F:Fn) (i:Nat):Bool:=match F.names[i]? with
 | none=>false
 | some _=>!F.comp || (match F.kinds[i]? with | some .local=>true | _=>false)
theorem zB {i:Nat} (h:qp F i=true):F.names[i]?=some (vp F i):=by
 unfold qp at h;unfold vp;cases q:F.names[i]? with
 | none=>rw[q] at h;cases h
 | some _=>rfl
theorem zC {i:Nat} (h:qp F i=true):F.comp=false\/F.kinds[i]?=some .local:=by
 unfold qp at h;cases q:F.names[i]? with
 | none=>rw[q] at h;cases h
 | some _=>
  rw[q] at h;cases c:F.comp with
  | false=>show .inl rfl
  | true=>
   rw[c] at h;show .inr ?_;cases z:F.kinds[i]? with
   | none=>rw[z] at h;cases h
   | some k=>
    rw[z] at h;cases k<;>first | rfl | show ff h
noncomputable def GZ (e:Expr):Bool:=!(Qu e==5)
theorem zD {e:Expr} (h:GZ e=true) (env:Env) (w:Sem Value):isTrue e env w=(do let v<-w;standAt e.pos;holding [v] (truthy v)):=by
 cases e<;>first | rfl | show ff h | (rename_i o _ _;cases o<;>first | rfl | show ff h)
noncomputable def Dl:Expr->Bool
 | .Call (.Name _ _) (_::_) _ _=>true
 | .Call .. =>false
 | _=>true
theorem vq {e:Expr} (h:Dl e=true) (x:Str) (env:Env) (w:Sem Value):attributeBase e x env w=w:=by
 cases e with
 | Call f as ks p=>
  cases f with
  | Name i q=>
   cases as with
   | nil=>show ff h
   | cons _ _=>rfl
  | _=>show ff h
 | _=>rfl
noncomputable def Dm (e:Expr):Bool:=!(Qu e==4)
theorem vr {v:Expr} (h:Dm v=true) (t:Option Expr) (n:Nat) (env:Env):swapsWith v t n env=pure false:=by
 cases v<;>first | rfl | show ff h
noncomputable def MB (v:Expr) (p:Pos):Bool:=Dm v || !(p.line==v.pos.line)
theorem Dn {v:Expr} {x:Str} {p:Pos} (h:MB v p=true) (n:Nat) (env:Env):swapsWith v (some (.Name x p)) n env=pure false:=by
 unfold MB at h;rcases Bool.or_eq_true_iff.mp h with h | h
 . show vr h _ _ _
 . have h:(p.line==v.pos.line)=false:=by simpa using h
   unfold swapsWith;split
   . simp only [h,Bool.and_false,Bool.false_and]
   . rfl
theorem Do (v o:Expr) (a:Str) (p:Pos) (n:Nat) (env:Env):swapsWith v (some (.Attribute o a p)) n env=pure false:=by cases v<;>rfl
theorem Fo (v o i:Expr) (p:Pos) (n:Nat) (env:Env):swapsWith v (some (.Subscript o i p)) n env=pure false:=by cases v<;>rfl
theorem yB (v:Expr) (es:List Expr) (k:Nat) (p:Pos) (n:Nat) (env:Env):swapsWithSole [.Tuple es k p] v n env=pure false:=by cases v<;>rfl
theorem gU {e:Expr} (h:Dk e=true) (env:Env) (v:Value):foldedSetIterable e env v=pure v:=by
 cases e<;>first | rfl | show ff h
theorem G0 {sc:Scope} (h:sc.kind= .function) {env:Env} (e:env.scope=sc):interactive env=false:=by
 unfold interactive;rw[e,h];rfl
noncomputable def G1 (e:Expr):Bool:=!(Qu e==6)
theorem Bp {es:List Expr} {k:Nat} {p:Pos} {v:Expr} (h:G1 v=true) (env:Env):swappedStores [.Tuple es k p] v env=pure none:=by
 cases v<;>first | rfl | show ff h
theorem Bq:∀(xs:List (CE F)) (env:Env),evalEach (xs.map (·.e)) env=xs.map fun x=>eval x.e env
 | [],_=>rfl
 | x::r,env=>by
  change eval x.e env::evalEach (r.map (·.e)) env=_;rw[Bq r env];rfl
namespace CE
noncomputable def loc (i:Nat) (x:Str) (pos:Pos) (hx:F.names[i]?=some x):CE F where
 e:= .Name x pos
 tr:=fun _ l σ Q _=>I5 l i fun v=>Q v σ
 ok:=fun c k l σ s Q X _ S h=>by
  show ae (ED h) fun v hv q=>?_;show ae S.ns fun m hn hl=>?_;have hm:x∈F.names:=zz hx;show j8 (F.kind_ i x hx) fun kd hkd hlk hor=>?_;have V:=hl i x kd hx hkd;rw[hv] at V;unfold ct at V;rcases hor with rfl | rfl
  . rw[dr zd] at V;cases hu:m x with
    | none=>rw[hu] at V;cases V
    | some u=>
     rw[hu] at V;show wpAny_Name (wpAny_loadName_local F.fn hlk hn hu (aS σ S (by rw[ql V];show q))) (F.nodebug x hm)
  . rw[eM rfl] at V;show aH V fun ca vo h1 h2 h3=>?_;cases vo with
    | none=>cases h3
    | some u=>show wpAny_Name (wpAny_loadName_cell F.fn hlk h1 h2 (aS σ S (by rw[ql h3];show q))) (F.nodebug x hm)
noncomputable def int (n:Int) (kk:Nat) (pos:Pos):CE F where
 e:= .Constant (.int n) kk pos
 tr:=fun _ _ σ Q _=>Q (.int n) σ
 ok:=fun _ _ _ σ _ _ _ _ S q=>wpAny_Constant_int (aS σ S.tok q)
noncomputable def str (n:Str) (kk:Nat) (pos:Pos):CE F where
 e:= .Constant (.str n) kk pos
 tr:=fun _ _ σ Q _=>Q (.str n) σ
 ok:=fun _ _ _ σ _ _ _ _ S q=>wpAny_Constant_str (aS σ S.tok q)
noncomputable def none (kk:Nat) (pos:Pos):CE F where
 e:= .Constant .none kk pos
 tr:=fun _ _ σ Q _=>Q .none σ
 ok:=fun _ _ _ σ _ _ _ _ S q=>wpAny_Constant_none (aS σ S q)
noncomputable def bool (b:Bool) (kk:Nat) (pos:Pos):CE F where
 e:= .Constant (.bool b) kk pos
 tr:=fun _ _ σ Q _=>Q (.bool b) σ
 ok:=fun _ _ _ σ _ _ _ _ S q=>wpAny_Constant_bool (aS σ S q)
end CE
end
set_option genInjectivity false
variable {F:Fn} {k:Nat} {σ:AS} {Q:aG} {X:cC}
set_option tactic.hygienic false
noncomputable section
noncomputable def ii (a b:AV) (f:Int->Int->Prop) (d:Prop):Prop:=match a,b with | .int x,.int y=>f x y | _,_=>d
noncomputable def QZ (a b:AV) (f:Int->Int->Prop) (g:Str->Str->Prop) (h:LU->LU->Prop) (d:Prop):Prop:=match a with
 | .int x=>(match b with | .int y=>f x y | _=>d)
 | .str x=>(match b with | .str y=>g x y | _=>d)
 | .bytes x=>(match b with | .bytes y=>h x y | _=>d)
 | _=>d
theorem Dp {a b:AV} {f:Int->Int->Prop} {g:Str->Str->Prop} {h:LU->LU->Prop} {d:Prop} {u v:Value} (z:QZ a b f g h d) (hu:er u=a) (hv:er v=b) {P:Value->Value->Prop} (k1:∀x y t t',f x y->P (.int x t) (.int y t')) (k2:∀x y t t',g x y->P (.str x t) (.str y t'))
 (k3:∀x y t t',h x.toList y.toList->P (.bytes x t) (.bytes y t')) (k0:d->P u v):P u v:=by
 cases a
 case int=>
  cases b
  case int=>rcases aI hu with ⟨t,rfl⟩;rcases aI hv with ⟨t',rfl⟩;show k1 _ _ _ _ z
  all_goals show k0 z
 case str=>
  cases b
  case str=>rcases db hu with ⟨t,rfl⟩;rcases db hv with ⟨t',rfl⟩;show k2 _ _ _ _ z
  all_goals show k0 z
 case bytes=>
  cases b
  case bytes=>rcases cN hu with ⟨t,rfl⟩;rcases cN hv with ⟨t',rfl⟩;show k3 _ _ _ _ z
  all_goals show k0 z
 all_goals show k0 z
theorem tw {a b:AV} {f:Int->Int->Prop} {d:Prop} {u v:Value} (z:ii a b f d) (hu:er u=a) (hv:er v=b) {P:Value->Value->Prop} (k1:∀x y t t',f x y->P (.int x t) (.int y t')) (k0:d->P u v):P u v:=by
 cases a
 case int=>
  cases b
  case int=>rcases aI hu with ⟨t,rfl⟩;rcases aI hv with ⟨t',rfl⟩;show k1 _ _ _ _ z
  all_goals show k0 z
 all_goals show k0 z
noncomputable def MC (k:Nat) (op:Operator) (a b:AV) (σ:AS) (Q:aG) (X:cC):Prop:=match op with
 | .Add=>QZ a b (fun x y=>Q (.int (x+y)) σ) (fun x y=>x.length+y.length<=sizeLine/\Q (.str (x++y)) σ) (fun x y=>x.length+y.length<=16777216/\Q (.bytes (x++y)) σ) (cj k (binaryOp .Add) a b σ Q X)
 | .Sub=>ii a b (fun x y=>Q (.int (x-y)) σ) (cj k (binaryOp .Sub) a b σ Q X)
 | .Mult=>ii a b (fun x y=>IntMulOk x y/\Q (.int (x*y)) σ) (cj k (binaryOp .Mult) a b σ Q X)
 | .FloorDiv=>ii a b (fun x y=>y≠0/\Builtin.divisionGoesByPylong x y=false/\Q (.int (x.fdiv y)) σ) (cj k (binaryOp .FloorDiv) a b σ Q X)
 | .Mod=>ii a b (fun x y=>y≠0/\Q (.int (x.fmod y)) σ) (cj k (binaryOp .Mod) a b σ Q X)
 | op=>cj k (binaryOp op) a b σ Q X
theorem I6 {c:Cx F} {k:Nat} {l:aO} {σ:AS} {s:Shared} {op:Operator} {a b:AV} {u v:Value} {Q:aG} {X:cC} (R:da c.A k) (S:St c l σ s) (hu:er u=a) (hv:er v=b) (h:MC k op a b σ Q X):
 wpAny (model Ω.p Ω.w) c.A (binaryOp op u v) (EP c l Q) (aM Ω.b c.all X c.g) s:=by
 have other:∀op,cj k (binaryOp op) a b σ Q X->wpAny (model Ω.p Ω.w) c.A (binaryOp op u v) (EP c l Q) (aM Ω.b c.all X c.g) s:=fun op h=>(h.run u v hu hv).lift R S;cases op
 case Add=>show Dp (P:=fun u v=>wpAny _ _ (binaryOp .Add u v) _ _ _) h hu hv (fun x y t t' h=>add_int (aS σ S.tok h)) (fun x y t t' h=>add_str (fun _ _=>(aS σ S.tok h.2)) h.1) (fun x y t t' h=>KBy.add_bytes (by simpa using h.1) fun _ _=>(aS σ S.tok (by rw[show er (Value.bytes (x++y) _)= .bytes (x.toList++y.toList) from congrArg AV.bytes Array.toList_append];show h.2))) (other _)
 case Sub=>show tw (P:=fun u v=>wpAny _ _ (binaryOp .Sub u v) _ _ _) h hu hv (fun x y t t' h=>sub_int (aS σ S.tok h)) (other _)
 case Mult=>show tw (P:=fun u v=>wpAny _ _ (binaryOp .Mult u v) _ _ _) h hu hv (fun x y t t' h=>mul_int (aS σ S.tok h.2) h.1) (other _)
 case FloorDiv=>show tw (P:=fun u v=>wpAny _ _ (binaryOp .FloorDiv u v) _ _ _) h hu hv (fun x y t t' h=>floordiv_int h.1 (aS σ S.tok h.2.2) (.inl h.2.1)) (other _)
 case Mod=>show tw (P:=fun u v=>wpAny _ _ (binaryOp .Mod u v) _ _ _) h hu hv (fun x y t t' h=>mod_int' h.1 (aS σ S.tok h.2)) (other _)
 all_goals show other _ h
noncomputable def bB:AV->Bool
 | .none=>true
 | _=>false
theorem yC {b:AV} (h:bB b=true):b= .none:=by cases b<;>first | rfl | show ff h
noncomputable def Fp (k:Nat) (op:CmpOp) (a b:AV) (σ:AS) (Q:aG) (X:cC):Prop:=match op with
 | .Is=>(match bB b with | true=>Q (.bool (bB a)) σ | false=>cj k (compareOp .Is) a b σ Q X)
 | .IsNot=>(match bB b with | true=>Q (.bool (!bB a)) σ | false=>cj k (compareOp .IsNot) a b σ Q X)
 | .Lt=>ii a b (fun x y=>Q (.bool (decide (x<y))) σ) (cj k (compareOp .Lt) a b σ Q X)
 | .LtE=>ii a b (fun x y=>Q (.bool (decide (x<=y))) σ) (cj k (compareOp .LtE) a b σ Q X)
 | .Gt=>ii a b (fun x y=>Q (.bool (decide (x>y))) σ) (cj k (compareOp .Gt) a b σ Q X)
 | .GtE=>ii a b (fun x y=>Q (.bool (decide (x≥y))) σ) (cj k (compareOp .GtE) a b σ Q X)
 | .Eq=>QZ a b (fun x y=>Q (.bool (x==y)) σ) (fun x y=>Q (.bool (x==y)) σ) (fun x y=>Q (.bool (x==y)) σ) (cj k (compareOp .Eq) a b σ Q X)
 | .NotEq=>QZ a b (fun x y=>Q (.bool (x !=y)) σ) (fun x y=>Q (.bool (x !=y)) σ) (fun x y=>Q (.bool (x !=y)) σ) (cj k (compareOp .NotEq) a b σ Q X)
 | op=>cj k (compareOp op) a b σ Q X
theorem vt {A:Around} {s:Shared} {u:Value} {Q:Value->Shared->Prop} {E:Value->Shared->Prop} (h:Q (.bool (bB (er u))) s):wpAny (model Ω.p Ω.w) A (compareOp .Is u .none) Q E s:=by
 show LZ (a:= .bool (bB (er u))) ?_ h;cases u<;>rfl
theorem xm {A:Around} {s:Shared} {u:Value} {Q:Value->Shared->Prop} {E:Value->Shared->Prop} (h:Q (.bool (!bB (er u))) s):wpAny (model Ω.p Ω.w) A (compareOp .IsNot u .none) Q E s:=by
 show LZ (a:= .bool (!bB (er u))) ?_ h;cases u<;>rfl
theorem mW {c:Cx F} {k:Nat} {l:aO} {σ:AS} {s:Shared} {op:CmpOp} {a b:AV} {u v:Value} {Q:aG} {X:cC} (R:da c.A k) (S:St c l σ s) (hu:er u=a) (hv:er v=b) (h:Fp k op a b σ Q X):
 wpAny (model Ω.p Ω.w) c.A (compareOp op u v) (EP c l Q) (aM Ω.b c.all X c.g) s:=by
 have other:∀op,cj k (compareOp op) a b σ Q X->wpAny (model Ω.p Ω.w) c.A (compareOp op u v) (EP c l Q) (aM Ω.b c.all X c.g) s:=fun op h=>(h.run u v hu hv).lift R S;cases op
 case Is=>
  cases q:bB b with
  | true=>
   have e:(match bB b with | true=>Q (.bool (bB a)) σ | false=>cj k (compareOp .Is) a b σ Q X):=h;rw[q] at e;rw[dU (hv.trans (yC q))];show vt (aS σ S (by rw[hu];show e))
  | false=>
   have e:(match bB b with | true=>Q (.bool (bB a)) σ | false=>cj k (compareOp .Is) a b σ Q X):=h;rw[q] at e;show other _ e
 case IsNot=>
  cases q:bB b with
  | true=>
   have e:(match bB b with | true=>Q (.bool (!bB a)) σ | false=>cj k (compareOp .IsNot) a b σ Q X):=h;rw[q] at e;rw[dU (hv.trans (yC q))];show xm (aS σ S (by rw[hu];show e))
  | false=>
   have e:(match bB b with | true=>Q (.bool (!bB a)) σ | false=>cj k (compareOp .IsNot) a b σ Q X):=h;rw[q] at e;show other _ e
 case Lt=>show tw (P:=fun u v=>wpAny _ _ (compareOp .Lt u v) _ _ _) h hu hv (fun x y t t' h=>lt_int (aS σ S h)) (other _)
 case LtE=>show tw (P:=fun u v=>wpAny _ _ (compareOp .LtE u v) _ _ _) h hu hv (fun x y t t' h=>le_int (aS σ S h)) (other _)
 case Gt=>show tw (P:=fun u v=>wpAny _ _ (compareOp .Gt u v) _ _ _) h hu hv (fun x y t t' h=>gt_int (aS σ S h)) (other _)
 case GtE=>show tw (P:=fun u v=>wpAny _ _ (compareOp .GtE u v) _ _ _) h hu hv (fun x y t t' h=>ge_int (aS σ S h)) (other _)
 case Eq=>show Dp (P:=fun u v=>wpAny _ _ (compareOp .Eq u v) _ _ _) h hu hv (fun x y t t' h=>eq_int (aS σ S h)) (fun x y t t' h=>eq_str (aS σ S h)) (fun x y t t' h=>eq_bytes (aS σ S h)) (other _)
 case NotEq=>show Dp (P:=fun u v=>wpAny _ _ (compareOp .NotEq u v) _ _ _) h hu hv (fun x y t t' h=>ne_int (aS σ S h)) (fun x y t t' h=>ne_str (aS σ S h)) (fun x y t t' h=>ne_bytes (aS σ S h)) (other _)
 all_goals show other _ h
noncomputable abbrev TG (op:Operator) (k:Nat) (a:AV) (Q:aG) (X:cC):aG:=fun b σ=>MC k op a b σ Q X
noncomputable abbrev TH (r:CE F) (op:Operator) (k:Nat) (l:aO) (Q:aG) (X:cC):aG:=fun a σ=>r.tr k l σ (TG op k a Q X) X
noncomputable abbrev TI (op:CmpOp) (k:Nat) (a:AV) (Q:aG) (X:cC):aG:=fun b σ=>Fp k op a b σ Q X
noncomputable abbrev Td (r:CE F) (op:CmpOp) (k:Nat) (l:aO) (Q:aG) (X:cC):aG:=fun a σ=>r.tr k l σ (TI op k a Q X) X
namespace CE
noncomputable def bin (l:CE F) (op:Operator) (r:CE F) (pos:Pos):CE F where
 e:= .BinOp l.e op r.e pos
 tr:=fun k lc σ Q X=>l.tr k lc σ (TH r op k lc Q X) X
 ok:=fun c k lc σ s Q X R S h=>wpAny_BinOp (gH (l.ok c k lc σ s _ X R S h) fun u UB Uv Uz UE=>
  gH (r.ok c k lc Uv UB _ X R Uz UE) fun v UC _ UA UF=>I6 R UA rfl rfl UF)
noncomputable def cmp (l:CE F) (op:CmpOp) (r:CE F) (pos:Pos):CE F where
 e:= .Compare l.e [op] [r.e] pos
 tr:=fun k lc σ Q X=>l.tr k lc σ (Td r op k lc Q X) X
 ok:=fun c k lc σ s Q X R S h=>wpAny_Compare1 (gH (l.ok c k lc σ s _ X R S h) fun u UB Uv Uz UE=>
  gH (r.ok c k lc Uv UB _ X R Uz UE) fun v UC _ UA UF=>mW R UA rfl rfl UF) (gi op r)
end CE
end
set_option tactic.hygienic true
noncomputable section
noncomputable abbrev gJ:=Bool->AS->Prop
structure CT (F:Fn) where
 e:Expr
 tr:Nat->aO->AS->gJ->cC->Prop
 ok:∀(c:Cx F) (k:Nat) (loc:aO) (σ:AS) (s:Shared) (Q:gJ) (X:cC),da c.A k->St c loc σ s->tr k loc σ Q X->
  wpAny (model Ω.p Ω.w) c.A (isTrue e c.env (eval e c.env)) (EQ c loc Q) (aM Ω.b c.all X c.g) s
noncomputable def pq (k:Nat) (a:AV) (σ:AS) (Q:gJ) (X:cC):Prop:=match a with
 | .bool b=>Q b σ
 | .none=>Q false σ
 | a=>I1 k truthy a σ Q X
theorem fM {c:Cx F} {k:Nat} {l:aO} {σ:AS} {s:Shared} {a:AV} {u:Value} {Q:gJ} {X:cC} (R:da c.A k) (S:St c l σ s) (hu:er u=a) (h:pq k a σ Q X):
 wpAny (model Ω.p Ω.w) c.A (truthy u) (EQ c l Q) (aM Ω.b c.all X c.g) s:=by
 cases a
 case bool=>rw[EB hu];show wpAny_truthy_bool (aS σ S.tok h)
 case none=>rw[dU hu];show truthy_none (aS σ S.tok h)
 all_goals show(I1.run h u hu).lift R S
noncomputable abbrev kT (k:Nat) (Q:gJ) (X:cC):aG:=fun a σ=>pq k a σ Q X
noncomputable abbrev TJ (op:BoolOp) (f:Nat->aO->AS->gJ->cC->Prop) (k:Nat) (l:aO) (Q:gJ) (X:cC):gJ:=fun b σ=>match op with
 | .And=>Br b (f k l σ Q X) (Q false σ)
 | .Or=>Br b (Q true σ) (f k l σ Q X)
noncomputable abbrev TK (Q:gJ):gJ:=fun b σ=>Q (!b) σ
noncomputable abbrev TL (x y:CE F) (k:Nat) (l:aO) (Q:aG) (X:cC):gJ:=fun b σ=>Br b (x.tr k l σ Q X) (y.tr k l σ Q X)
noncomputable abbrev kR (l:aO) (Q:ax):aG:=fun v σ=>Q (.ret v) l σ
noncomputable abbrev kA (i:Nat) (l:aO) (Q:ax):aG:=fun u σ=>Q .next (l.set i (some u)) σ
noncomputable abbrev kI (x y:CB F) (k:Nat) (l:aO) (Q:ax) (X:cC):gJ:=fun b σ=>Br b (x.tr k l σ Q X) (y.tr k l σ Q X)
noncomputable abbrev nx (r:CB F) (k:Nat) (Q:ax) (X:cC):ax:=fun f l σ=>match f with | .next=>r.tr k l σ Q X | f=>Q f l σ
namespace CT
noncomputable def cmp (l:CE F) (op:CmpOp) (r:CE F) (pos:Pos):CT F where
 e:= .Compare l.e [op] [r.e] pos
 tr:=fun k lc σ Q X=>l.tr k lc σ (Td r op k lc (kT k Q X) X) X
 ok:=fun c k lc σ s Q X R S h=>wpAny_isTrue_Compare1 (gH (l.ok c k lc σ s _ X R S h) fun u UB Uv Uz UE=>
  gH (r.ok c k lc Uv UB _ X R Uz UE) fun v UC _ UA UF=>gH (mW R UA rfl rfl UF) fun t UD _ S₃ UG=>fM R S₃ rfl UG) (gi op r)
noncomputable def val (x:CE F):CT F where
 e:=x.e
 tr:=fun k lc σ Q X=>gd (GZ x.e) (x.tr k lc σ (kT k Q X) X)
 ok:=fun c k lc σ s Q X R S h=>wpAny_isTrue_value (gH (x.ok c k lc σ s _ X R S (gh h).2) fun u UB Uv Uz UE=>fM R Uz rfl UE) (zD (gh h).1 _ _)
noncomputable def not (x:CT F) (pos:Pos):CT F where
 e:= .UnaryOp .Not x.e pos
 tr:=fun k lc σ Q X=>x.tr k lc σ (TK Q) X
 ok:=fun c k lc σ s Q X R S h=>wpAny_isTrue_Not (x.ok c k lc σ s _ X R S h)
noncomputable def allTr (op:BoolOp):List (CT F)->Nat->aO->AS->gJ->cC->Prop
 | [],_,_,σ,Q,_=>Q (match op with | .And=>true | .Or=>false) σ
 | [x],k,lc,σ,Q,X=>x.tr k lc σ Q X
 | x::y::r,k,lc,σ,Q,X=>x.tr k lc σ (TJ op (allTr op (y::r)) k lc Q X) X
theorem all_ok {op:BoolOp} (c:Cx F) (k:Nat) (lc:aO) (Q:gJ) (X:cC) (R:da c.A k) (pos:Pos):∀(xs:List (CT F)) (σ:AS) (s:Shared) (whole:Sem Value),St c lc σ s->allTr op xs k lc σ Q X->
 wpAny (model Ω.p Ω.w) c.A (isTrue (.BoolOp op (xs.map (·.e)) pos) c.env whole) (EQ c lc Q) (aM Ω.b c.all X c.g) s
 | [],σ,s,whole,S,h=>by cases op<;>first | show isTrue_and_nil ⟨σ,S.tok,h⟩ | show isTrue_or_nil ⟨σ,S.tok,h⟩
 | [x],σ,s,whole,S,h=>by
  cases op
  . show isTrue_and (gH (x.ok c k lc σ s _ X R S h) fun b UB Uv Uz UE=>?_);cases b
    . show⟨Uv,Uz,UE⟩
    . show isTrue_and_nil ⟨Uv,Uz,UE⟩
  . show isTrue_or (gH (x.ok c k lc σ s _ X R S h) fun b UB Uv Uz UE=>?_);cases b
    . show isTrue_or_nil ⟨Uv,Uz,UE⟩
    . show⟨Uv,Uz,UE⟩
 | x::y::r,σ,s,whole,S,h=>by
  cases op
  . show isTrue_and (gH (x.ok c k lc σ s _ X R S h) fun b UB Uv Uz UE=>?_);cases b
    . show⟨Uv,Uz,UE.f rfl⟩
    . show all_ok c k lc Q X R pos (y::r) Uv UB _ Uz (UE.t rfl)
  . show isTrue_or (gH (x.ok c k lc σ s _ X R S h) fun b UB Uv Uz UE=>?_);cases b
    . show all_ok c k lc Q X R pos (y::r) Uv UB _ Uz (UE.f rfl)
    . show⟨Uv,Uz,UE.t rfl⟩
noncomputable def all (op:BoolOp) (xs:List (CT F)) (pos:Pos):CT F where
 e:= .BoolOp op (xs.map (·.e)) pos
 tr:=fun k lc σ Q X=>allTr op xs k lc σ Q X
 ok:=fun c k lc σ s Q X R S h=>all_ok c k lc Q X R pos xs σ s _ S h
end CT
namespace CE
noncomputable def ifexp (t:CT F) (x y:CE F) (pos:Pos):CE F where
 e:= .IfExp t.e x.e y.e pos
 tr:=fun k lc σ Q X=>t.tr k lc σ (TL x y k lc Q X) X
 ok:=fun c k lc σ s Q X R S h=>wpAny_IfExp (gH (t.ok c k lc σ s _ X R S h) fun b UB Uv Uz UE=>by
  cases b
  . show y.ok c k lc Uv UB _ X R Uz (UE.f rfl)
  . show x.ok c k lc Uv UB _ X R Uz (UE.t rfl))
end CE
structure CS (F:Fn) where
 b:Stmt
 tr:Nat->aO->AS->ax->cC->Prop
 ok:∀(c:Cx F) (k:Nat) (loc:aO) (σ:AS) (s:Shared) (Q:ax) (X:cC),da c.A k->St c loc σ s->tr k loc σ Q X->
  wpAny (model Ω.p Ω.w) c.A (exec b c.env) (SP c Q) (aM Ω.b c.all X c.g) s
namespace CB
noncomputable def nil:CB F where
 b:=[]
 tr:=fun _ l σ Q _=>Q .next l σ
 ok:=fun c k l σ s Q X R S h=>wpAny_execs_nil (xh .next l σ rfl S h)
noncomputable def cons (x:CS F) (r:CB F):CB F where
 b:=x.b::r.b
 tr:=fun k l σ Q X=>x.tr k l σ (nx r k Q X) X
 ok:=fun c k l σ s Q X R S h=>wpAny_execs_cons (dw (x.ok c k l σ s _ X R S h) (fun f UB hp=>eg hp fun f' l₁ Uv e Uz UE=>by
  cases f<;>cases e
  . show r.ok c k l₁ Uv UB Q X R Uz UE
  . show(xh _ l₁ Uv rfl Uz UE)
  . show(xh _ l₁ Uv rfl Uz UE)
  . show(xh _ l₁ Uv rfl Uz UE)) fun _ _ e=>e)
end CB
namespace CS
noncomputable def ret (x:CE F) (pos:Pos):CS F where
 b:= .Return (some x.e) pos
 tr:=fun k l σ Q X=>x.tr k l σ (kR l Q) X
 ok:=fun c k l σ s Q X R S h=>wpAny_Return_some (gH (x.ok c k l σ s _ X R S h) fun v UB Uv Uz UE=>(xh _ l Uv rfl Uz UE))
noncomputable def ret0 (pos:Pos):CS F where
 b:= .Return none pos
 tr:=fun k l σ Q X=>Q (.ret .none) l σ
 ok:=fun c k l σ s Q X R S h=>wpAny_Return_none (xh _ l σ rfl S h)
noncomputable def ite (t:CT F) (x y:CB F) (pos:Pos):CS F where
 b:= .If t.e x.b y.b pos
 tr:=fun k l σ Q X=>t.tr k l σ (kI x y k l Q X) X
 ok:=fun c k l σ s Q X R S h=>wpAny_If (gH (t.ok c k l σ s _ X R S h) fun b UB Uv Uz UE=>by
  cases b
  . show y.ok c k l Uv UB Q X R Uz (UE.f rfl)
  . show x.ok c k l Uv UB Q X R Uz (UE.t rfl))
theorem names_ne {i j:Nat} {x y:Str} (hx:F.names[i]?=some x) (hy:F.names[j]?=some y) (h:i≠j):x≠y:=fun e=>by
 subst e;show aw (LX.mp hy) fun hj ej=>?_;show aw (LX.mp hx) fun hi ei=>?_;have P:=List.pairwise_iff_getElem.mp F.nd;rcases Nat.lt_trichotomy j i with q | q | q
 . show absurd (ej.trans ei.symm) (P j i hj hi q)
 . show h q.symm
 . show absurd (ei.trans ej.symm) (P i j hi hj q)
theorem store {c:Cx F} {l:aO} {σ:AS} {s:Shared} {i:Nat} {x:Str} {v:Value} {Q:Unit->Shared->Prop} {E:Value->Shared->Prop} (hx:F.names[i]?=some x) (hc:F.comp=false\/F.kinds[i]?=some .local) (S:St c l σ s)
 (h:∀s',St c (l.set i (some (er v))) σ s'->Q () s'):wpAny (model Ω.p Ω.w) c.A (storeName c.env x v) Q E s:=by
 obtain⟨⟨m,hn,hl⟩,len,rs,no,noc⟩:=S;show j8 (F.kind_ i x hx) fun kd hkd hlk hor=>?_;have lt:i<l.length:=by rw[len];show(LX.mp hx).1
 rcases hor with rfl | rfl
 . show wpAny_storeName_local hlk hn (fun h' hn' hs=>h _ ⟨(aS _ hn' (fun j y kd' hy hkd'=>?_)),by rw[List.length_set];show len,rs.but c.fresh no hs.extBut,no,fun y ca hm=>⟨(noc y ca hm).1,let ⟨o,ho⟩:=(noc y ca hm).2;⟨o,hs.extBut _ _ (c.cellL y ca hm) ho⟩⟩⟩) ?_
   . by_cases e:i=j
     . subst e;rw[hx] at hy;cases hy;rw[hkd] at hkd';cases hkd';simp [ct,lt]
     . have ne:=names_ne hx hy e;have V:=hl j y kd' hy hkd';rw[List.getElem?_set,dr e];unfold ct at V⊢;split
       . rename_i q;rw[eM q] at V;show aH V fun ca vo h1 h2 h3=>?_;show⟨ca,vo,h1,h2.sameBut hs (c.cellL _ _ h1),h3⟩
       . rename_i q;rw[dr q] at V;change Option.map er (if y=x then some v else m y)=_;rw[dr (ez ne)];show V
   . change(F.scope.kind== .class || (F.scope.kind== .module&&_))=false;rw[F.fn];rfl
 . have hcf:F.comp=false:=hc.resolve_right fun q=>by rw[hkd] at q;cases q
   have V:=hl i x _ hx hkd;unfold ct at V;rw[eM rfl] at V;show aH V fun ca vo h1 h2 h3=>?_;have hm:=h1;show wpAny_storeName_cell F.fn hlk h1 h2 fun h' hc' hs=>h _ ⟨⟨m,hn.sameBut hs (ez (c.cellL _ _ hm)),fun j y kd' hy hkd'=>?_⟩,by rw[List.length_set];show len,rs.but (c.cellg hcf _ _ hm) (noc _ _ hm).1 hs.extBut,no,fun y ca' hm'=>⟨(noc y ca' hm').1,?_⟩⟩
   . by_cases e:i=j
     . subst e;rw[hx] at hy;cases hy;rw[hkd] at hkd';cases hkd';simp only [ct,if_true];show⟨ca,some v,h1,hc',by simp [lt]⟩
     . have ne:=names_ne hx hy e;have V:=hl j y kd' hy hkd';rw[List.getElem?_set,dr e];unfold ct at V⊢;split
       . rename_i q;rw[eM q] at V;show aH V fun ca' vo' h1' h2' h3'=>?_;show⟨ca',vo',h1',h2'.sameBut hs fun z=>ne (name_of_addr c.apart (mem_of_lookup hm) (z▸mem_of_lookup h1')),h3'⟩
       . rename_i q;rw[dr q] at V;show V
   . show aw ((noc y ca' hm').2) fun o ho=>?_;by_cases z:ca'=ca
     . subst z;show ae hc' fun o' ho' _=>?_;show⟨o',ho'⟩
     . show⟨o,hs.extBut _ _ z ho⟩
noncomputable def assign (i:Nat) (x:Str) (v:CE F) (pos' pos:Pos) (hx:F.names[i]?=some x) (hc:F.comp=false\/F.kinds[i]?=some .local) (hs:∀env,swapsWith v.e (some (.Name x pos')) pos.line env=pure false):CS F where
 b:= .Assign [.Name x pos'] v.e pos
 tr:=fun k l σ Q X=>v.tr k l σ (kA i l Q) X
 ok:=fun c k l σ s Q X R S h=>wpAny_Assign_Name (gH (v.ok c k l σ s _ X R S h) fun u UB Uv Uz UE=>store hx hc Uz fun UC UA=>(xh _ _ Uv rfl UA UE)) (hs _)
end CS
end
set_option tactic.hygienic false
noncomputable section
theorem St.baseKeeps {c:Cx F} {l:aO} {σ:AS} {s:Shared} (S:St c l σ s) (b:Addr) (o:Obj) (e:Ω.b.get? b=some o):s.heap.get? b=some o:=S.rs.keep b o (c.keeps b o e)
theorem iK {c:Cx F} {l:aO} {σ:AS} {s:Shared} {f:Value} (S:St c l σ s) (e:bw Ω.w (er f)):
 ∃k,(k=Keeper.frame\/k=Keeper.machine\/k=Keeper.boundFrame)/\Looks (model Ω.p Ω.w) s.heap (keeperOf f) k:=by
 cases f with
 | ref a=>show keeps_K (M:=model Ω.p Ω.w) (K:=KK Ω.w.params) e s.heap fun a o q=>S.baseKeeps a o (c.world.inK a o q)
 | builtin _=>show⟨.machine,.inr (.inl rfl),.now⟩
 | type _=>show⟨.machine,.inr (.inl rfl),.now⟩
 | _=>show e.elim
noncomputable abbrev kV (a:AV) (Q:List AV->AS->Prop):List AV->AS->Prop:=fun vs σ=>Q (a::vs) σ
noncomputable abbrev kG (f:Nat->aO->AS->(List AV->AS->Prop)->cC->Prop) (k:Nat) (l:aO) (Q:List AV->AS->Prop) (X:cC):aG:=fun a σ=>f k l σ (kV a Q) X
noncomputable abbrev kL (k:Nat) (f:AV) (Q:aG) (X:cC):List AV->AS->Prop:=fun vs σ=>aa k f vs σ Q X
namespace CE
noncomputable def argsTr:List (CE F)->Nat->aO->AS->(List AV->AS->Prop)->cC->Prop
 | [],_,_,σ,Q,_=>Q [] σ
 | x::r,k,lc,σ,Q,X=>x.tr k lc σ (kG (argsTr r) k lc Q X) X
theorem args_ok (c:Cx F) (k:Nat) (lc:aO) (X:cC) (R:da c.A k):∀(xs:List (CE F)) (σ:AS) (s:Shared) (Q:List AV->AS->Prop),St c lc σ s->argsTr xs k lc σ Q X->
 wpAny (model Ω.p Ω.w) c.A (spliced (xs.map fun x=>(false,eval x.e c.env))) (fun vs s'=>∃UH,St c lc UH s'/\Q (vs.map er) UH) (aM Ω.b c.all X c.g) s
 | [],σ,s,Q,S,h=>spliced_nil ⟨σ,S,h⟩
 | x::r,σ,s,Q,S,h=>spliced_cons (gH (x.ok c k lc σ s _ X R S h) fun v UB Uv Uz UE=>args_ok c k lc X R r Uv UB _ Uz UE)
theorem evalArgs_ok (c:Cx F) (k:Nat) (lc:aO) (X:cC) (R:da c.A k) (f:Value) (xs:List (CE F)) (σ:AS) (s:Shared) (Q:List AV->AS->Prop) (S:St c lc σ s) (h:argsTr xs k lc σ Q X):
 wpAny (model Ω.p Ω.w) c.A (evalArgs f true (xs.map fun x=>(false,eval x.e c.env)) []) (fun a s'=>a.kw=[]/\∃UH,St c lc UH s'/\Q (a.pos.map er) UH) (aM Ω.b c.all X c.g) s:=by
 cases xs with
 | nil=>show evalArgs_kw_nil (keywords:=[]) rfl (wpAny_evalAll_nil ⟨rfl,σ,S,h⟩)
 | cons x r=>show evalArgs_plain (dw (args_ok c k lc X R (x::r) σ s Q S h) (fun vs s' z=>⟨rfl,z⟩) fun _ _ e=>e)
theorem plainArgs {env:Env}:∀xs:List (CE F),(xs.map fun x=>(false,eval x.e env)).any (·.1)=false
 | []=>rfl
 | x::r=>by rw[dI,List.any_cons,plainArgs r];rfl
theorem callWith_ok (c:Cx F) (k:Nat) (lc:aO) (X:cC) (R:da c.A k) (pos:Pos) (f:Value) (first:List Value) (xs:List (CE F)) (σ:AS) (s:Shared) (Q:aG) (S:St c lc σ s) (hc:bw Ω.w (er f))
 (h:argsTr xs k lc σ (fun vs Uv=>aa k (er f) (first.map er++vs) Uv Q X) X):
 wpAny (model Ω.p Ω.w) c.A (callWith pos f first (xs.map fun x=>(false,eval x.e c.env)) []) (EP c lc Q) (aM Ω.b c.all X c.g) s:=by
 show callWith_of (P:=fun h=>∃s,s.heap=h/\∃σ,St c lc σ s/\bw Ω.w (er f)) (by rw[plainArgs];rfl) (fun h hp=>ae hp fun s es hp=>ae hp fun σ S e=>es▸iK S e) ?_;show dw (evalArgs_ok c k lc X R f xs σ s _ S h) (fun a UB hp=>aL hp fun ek hp=>ae hp fun Uv Uz J=>⟨⟨UB,rfl,Uv,Uz,hc⟩,?_⟩) fun _ _ e=>e;rw[ek];show(J.do rfl (by rw[pj])).lift R Uz
noncomputable def call (f:CE F) (id:Str) (p:Pos) (hf:f.e= .Name id p) (xs:List (CE F)) (pos:Pos):CE F where
 e:= .Call (.Name id p) (xs.map (·.e)) [] pos
 tr:=fun k lc σ Q X=>f.tr k lc σ (fun fv Uv=>bw Ω.w fv/\argsTr xs k lc Uv (kL k fv Q X) X) X
 ok:=fun c k lc σ s Q X R S h=>wpAny_Call_NameR (by
  have z:=f.ok c k lc σ s _ X R S h;rw[hf] at z;show dw z (fun fv UB hp=>ae hp fun Uv Uz UE=>?_) fun _ _ e=>e;rw[eh];show callWith_ok c k lc X R pos fv [] xs Uv UB Q Uz UE.1 UE.2)
noncomputable def callK (f:CE F) (u:AV) (id:Str) (p:Pos) (hf:f.e= .Name id p) (hv:∀k lc σ Q X,f.tr k lc σ Q X=Q u σ) (hc:bw Ω.w u) (xs:List (CE F)) (pos:Pos):CE F where
 e:= .Call (.Name id p) (xs.map (·.e)) [] pos
 tr:=fun k lc σ Q X=>argsTr xs k lc σ (kL k u Q X) X
 ok:=fun c k lc σ s Q X R S h=>(call f id p hf xs pos).ok c k lc σ s Q X R S ((hv k lc σ _ X).symm▸⟨hc,h⟩)
end CE
end
set_option tactic.hygienic true
noncomputable section
theorem da.deeper {A:Around} {k:Nat} {env:Env} (R:da A (k+1)):da (A.deeper env) k:=by
 show aL R fun a b=>?_;show⟨?_,?_⟩
 . change A.depth+1+4*k<recursionLimit;lia
 . change A.units+3+16*k<cLine;lia
theorem aN {Uo:Heap} {Up:List Env} {os:Fz} {e:Value} {s:Shared} (h:aM Uo Up (fun _ _=>False) os e s):False:=by
 obtain⟨_,_,_,_,_,_,_,_,_,_,⟨_,_,q⟩,_⟩:=h;show q
theorem aa.mono {k:Nat} {f:AV} {vs:List AV} {σ:AS} {Q Q':aG} {X:cC} (J:aa k f vs σ Q X) (h:∀v UH,Q v UH->Q' v UH):aa k f vs σ Q' X:=
 ⟨fun A Up g s fv vv h1 h2 h3 h4 h5 h6 h7=>dw (J.run A Up g s fv vv h1 h2 h3 h4 h5 h6 h7) (fun _ _ hp=>ae hp fun UH r q=>(aS UH r (h _ _ q))) fun _ _ z=>z⟩
theorem da.le {A:Around} {k k':Nat} (R:da A k') (h:k<=k'):da A k:=⟨Df zo R.1,Df zo R.2⟩
theorem aa.up {k k':Nat} {f:AV} {vs:List AV} {σ:AS} {Q:aG} {X:cC} (J:aa k f vs σ Q X) (h:k<=k'):aa k' f vs σ Q X:=
 ⟨fun A Up g s fv vv h1 h2 h3 h4 h5 h6 h7=>J.run A Up g s fv vv h1 h2 (h3.le h) h4 h5 h6 h7⟩
structure kO (k:Nat) (f:AV) (vs:List AV) (σ:AS) (Q:aG) (X:cC):Prop where
 run:∀(A:Around) (Up:List Env) (g:Fz) (s:Shared) (fv:Value) (vv:List Value),A.frames=some Up->A.handled=none->da A k->eD Ω.b Up g->RS Ω.p Ω.w g σ s->er fv=f->vv.map er=vs->
  codeAny (model Ω.p Ω.w) A (.call fv ⟨vv,[]⟩) (fun r s'=>match r with | .ok (.ret v)=>∃UH,RS Ω.p Ω.w g UH s'/\Q (er v) UH | .ok _=>False | .error e=>aM Ω.b Up X g e s') s
theorem kO.call {k:Nat} {f:AV} {vs:List AV} {σ:AS} {Q:aG} {X:cC} (J:kO k f vs σ Q X):aa k f vs σ Q X:=
 ⟨fun A Up g s fv vv h1 h2 h3 h4 h5 h6 h7=>wpAny_call (J.run A Up g s fv vv h1 h2 h3 h4 h5 h6 h7)⟩
structure eP (F:Fn) (w:World) (Uo:Heap) (a:Addr) (cd:Value) (body:List Stmt) (n:Nat) (binds:List Value->List (Str×Value)):Prop where
 at_:∃o fd,Uo.get? a=some o/\o.data= .func fd/\Uo.CodeRec fd.code fd.qualname/\fd.body= .stmts body/\fd.scope=F.scope/\(∀L,callEnv fd L a=pp F.scope L [] (F.name++".<locals>.") (some a) cd (some L))/\
  ∀(s:Shared) (vv:List Value),(∀b o,Uo.get? b=some o->s.heap.get? b=some o)->vv.length=n->BindsTo s fd ⟨vv,[]⟩ (binds vv)
 cells:∀x∈F.scope.names,x.2≠.cell
 kinds:∀kd∈F.kinds,kd= .local
 locals_:∀vv:List Value,vv.length=n->∀x∈binds vv,F.scope.names.lookup x.1=some .local
 plain:F.scope.isCoroutine=false/\F.scope.isGenerator=false
structure ic (F:Fn) (w:World) (Uo:Heap) (a:Addr) (cd:Value) (body:List Stmt) (n:Nat) (binds:List Value->List (Str×Value)):Prop where
 at_:∃o fd,Uo.get? a=some o/\o.data= .func fd/\Uo.CodeRec fd.code fd.qualname/\fd.body= .stmts body/\fd.scope=F.scope/\fd.closure=[]/\(∀L,callEnvC fd L a=pp F.scope L (cellsFrom (L+1) F.scope.names []) (F.name++".<locals>.") (some a) cd (some L))/\
  ∀vv:List Value,vv.length=n->bindArgs fd ⟨vv,[]⟩=pure (binds vv)
 cell:∀(m:Nat) (i:Nat) (x:Str),F.names[i]?=some x->F.kinds[i]?=some .cell->((cellsFrom m F.scope.names []).lookup x).isSome=true
 kinds:∀(m:Nat) (vv:List Value),vv.length=n->∀x∈binds vv,F.scope.names.lookup x.1=some .local\/(F.scope.names.lookup x.1=some .cell/\((cellsFrom m F.scope.names []).lookup x.1).isSome=true)
 plain:F.scope.isCoroutine=false/\F.scope.isGenerator=false
theorem ie {Uo:Heap} {Up:List Env} {g:Fz} {L:Addr} {env:Env} (O:eD Uo Up g) (hk:env.scope.kind= .function) (hf:env.frame=some L) (hb:Uo.get? L=none):
 ∀e∈env::Up,e.scope.kind≠.module/\∃Lf,e.frame=some Lf/\Uo.get? Lf=none/\(Lf=L\/∃o,g.f Lf=some o/\∀vs,o.data≠.fields vs):=by
 intro e he;rcases mV he with rfl | he
 . show⟨by rw[hk];decide,L,hf,hb,.inl rfl⟩
 . obtain⟨h1,Lf,o,h2,h3,h4,h5⟩:=O.frames e he;show⟨h1,Lf,h2,h3,.inr ⟨o,h4,h5⟩⟩
noncomputable abbrev kQ (Q:aG):ax:=fun f _ UH=>Q (match f with | .ret v=>v | _=> .none) UH
theorem MD (W:WW) {a:Addr} {cd:Value} {n:Nat} {binds:List Value->List (Str×Value)} {vs:List AV} {σ:AS} {Q:aG} {X:cC} {k:Nat} (B:CB F) (lc:aO)
 (D:eP F Ω.w Ω.b a cd B.b n binds) (hn:vs.length=n) (hl:lc.length=F.names.length) (hb:∀vv:List Value,vv.map er=vs->GW F.names lc fun x=>(binds vv).reverse.lookup x)
 (h:B.tr k lc σ (kQ Q) fun _ _=>False):kO (k+1) (.ref a) vs σ Q X:=by
 show⟨fun A Up g s fv vv hA hH R O rs hf hv=>?_⟩;rw[ah hf];show Mw D.at_ fun o fd ho hd hcr hbd hsc hE hbi=>?_;have kb:∀b o,Ω.b.get? b=some o->s.heap.get? b=some o:=fun b o e=>rs.keep b o (O.keeps b o e);have hlen:vv.length=n:=by rw[<-hn,<-hv,a9]
 have hr1:A.depth<recursionLimit:=Df zo R.1;show codeAny_call_def hr1 (kb _ _ ho) hd (W.top.nolimit.keeps kb) (hcr.keeps kb) hbd (hbi s vv kb hlen) (by rw[hsc];show D.cells) (by rw[hsc];show D.locals_ vv hlen) ?_ (by rw[hsc];show D.plain.1) (by rw[hsc];show D.plain.2) (by rw[hsc];show F.fn);intro UE hns hk;rw[hE];have fresh:s.heap.get? s.heap.objs.size=none:=by
  cases q:s.heap.get? s.heap.objs.size with
  | none=>rfl
  | some o=>show absurd (va q) (Nat.lt_irrefl _)
 have bfresh:Ω.b.get? s.heap.objs.size=none:=by
  cases q:Ω.b.get? s.heap.objs.size with
  | none=>rfl
  | some o=>show absurd (fresh.symm.trans (kb _ _ q)) nofun
 let env:=pp F.scope s.heap.objs.size [] (F.name++".<locals>.") (some a) cd (some s.heap.objs.size)
 let c:Cx F:=⟨A.deeper env,env::Up,g,s.heap.objs.size,[],F.name++".<locals>.",some a,cd,some s.heap.objs.size,W,Around.frames_deeper hA,hH,O.keeps,ie O F.fn rfl bfresh,O.mods,rs.none_of fresh,List.Pairwise.nil,(fun _ _ h=>nomatch h),(fun _ _ _ h=>nomatch h),fun _=>(aS _ rfl rfl)⟩
 have S:St c lc σ {s with heap:=UE,toks:=s.toks+(binds vv).length}:=⟨(aS _ hns (fun i x kd hx hkd=>by
  have e:=D.kinds kd (zz hkd);subst e;unfold ct;rw[dr zd];show hb vv hv i x hx)),hl,rs.ext hk,rs.free_of fresh,fun _ _ h=>nomatch h⟩
 show dw (B.ok c k lc σ {s with heap:=UE,toks:=s.toks+(binds vv).length} _ _ R.deeper S h) (fun f s' hp=>eg hp fun f' lc' UH e S' q=>?_) fun e s' z=>(aN z).elim;cases f<;>cases e<;>show(aS UH S'.rs q)
theorem ME (W:WW) {a:Addr} {cd:Value} {n:Nat} {binds:List Value->List (Str×Value)} {vs:List AV} {σ:AS} {Q:aG} {X:cC} {k:Nat} (B:CB F) (lc:aO)
 (D:ic F Ω.w Ω.b a cd B.b n binds) (hn:vs.length=n) (hl:lc.length=F.names.length)
 (hb:∀vv:List Value,vv.map er=vs->∀(i:Nat) (x:Str) (kd:NameKind),F.names[i]?=some x->F.kinds[i]?=some kd->((if kd= .cell then bindC (fun y=>F.scope.names.lookup y) (binds vv) (fun _=>none) else bindL (fun y=>F.scope.names.lookup y) (binds vv) fun _=>none) x).map er=(lc[i]?).join)
 (h:B.tr k lc σ (kQ Q) fun _ _=>False):kO (k+1) (.ref a) vs σ Q X:=by
 show⟨fun A Up g s fv vv hA hH R O rs hf hv=>?_⟩;rw[ah hf];show Qo D.at_ fun o fd ho hd hcr hbd hsc hclo hE hbi=>?_;have kb:∀b o,Ω.b.get? b=some o->s.heap.get? b=some o:=fun b o e=>rs.keep b o (O.keeps b o e);have hlen:vv.length=n:=by rw[<-hn,<-hv,a9]
 have hr1:A.depth<recursionLimit:=Df zo R.1;show codeAny_call_cells hr1 (kb _ _ ho) hd (W.top.nolimit.keeps kb) (hcr.keeps kb) hbd (hbi vv hlen) hclo (by rw[hsc];show D.kinds _ vv hlen) ?_ (by rw[hsc];show D.plain.1) (by rw[hsc];show D.plain.2) (by rw[hsc];show F.fn);intro UB x;rw[hE] at x⊢;have fresh:s.heap.get? s.heap.objs.size=none:=by
  cases q:s.heap.get? s.heap.objs.size with
  | none=>rfl
  | some o=>show absurd (va q) (Nat.lt_irrefl _)
 have none_ge:∀ca,s.heap.objs.size<=ca->s.heap.get? ca=none:=fun ca hca=>by
  cases q:s.heap.get? ca with
  | none=>rfl
  | some o=>show absurd (va q) (Nat.not_lt.mpr hca)
 have bfresh:Ω.b.get? s.heap.objs.size=none:=by
  cases q:Ω.b.get? s.heap.objs.size with
  | none=>rfl
  | some o=>show absurd (fresh.symm.trans (kb _ _ q)) nofun
 show bQ x.done fun UE tk hr2 hk=>?_;subst hr2
 let env:=pp F.scope s.heap.objs.size (cellsFrom (s.heap.objs.size+1) F.scope.names []) (F.name++".<locals>.") (some a) cd (some s.heap.objs.size)
 have ab:∀x' ca,(cellsFrom (s.heap.objs.size+1) F.scope.names []).lookup x'=some ca->s.heap.objs.size+1<=ca:=fun x' ca hm=>x.above x' ca (mem_of_lookup hm)
 let c:Cx F:=⟨A.deeper env,env::Up,g,s.heap.objs.size,cellsFrom (s.heap.objs.size+1) F.scope.names [],F.name++".<locals>.",some a,cd,some s.heap.objs.size,W,Around.frames_deeper hA,hH,O.keeps,ie O F.fn rfl bfresh,O.mods,rs.none_of fresh,x.apart,
  fun x' ca hm=>Nat.ne_of_gt (ab x' ca hm),(fun _ x' ca hm=>rs.none_of (none_ge ca (by have:=ab x' ca hm;lia))),fun _=>(aS _ rfl rfl)⟩
 have S:St c lc σ {s with heap:=UE,toks:=tk}:=⟨⟨_,x.toInCall.ns,fun i y kd hy hkd=>by
  have e:=hb vv hv i y kd hy hkd;unfold ct;split
  . rename_i q;subst q;rw[eM rfl] at e;show aw (Option.isSome_iff_exists.mp (D.cell (s.heap.objs.size+1) i y hy hkd)) fun ca hca=>?_;show⟨ca,_,hca,x.cell y ca hca,e⟩
  . rename_i q;rw[dr q] at e;show e⟩,hl,rs.ext hk,rs.free_of fresh,fun x' ca hm=>⟨rs.free_of (none_ge ca (by have:=ab x' ca hm;lia)),let ⟨o,ho,_⟩:=x.cell x' ca hm;⟨o,ho⟩⟩⟩
 show dw (B.ok c k lc σ _ _ _ R.deeper S h) (fun f s' hp=>eg hp fun f' lc' UH e S' q=>?_) fun e s' z=>(aN z).elim;cases f<;>cases e<;>show(aS UH S'.rs q)
noncomputable def I7 {α:Type} (r:Option (Option α)):Bool:=match r with | some none=>true | _=>false
noncomputable def Fq (r:Option (Option Value)) (i:String):Bool:=match r with | some (some (.builtin j))=>j==i | _=>false
theorem zE {α:Type} {r:Option (Option α)} (h:I7 r=true):r=some none:=by
 cases r with
 | none=>show ff h
 | some r=>cases r with
  | none=>rfl
  | some _=>show ff h
theorem qq {r:Option (Option Value)} {i:String} (h:Fq r i=true):r=some (some (.builtin i)):=by
 cases r with
 | none=>show ff h
 | some r=>cases r with
  | none=>show ff h
  | some v=>
   cases v
   case builtin j=>rw[Bi h]
   all_goals show ff h
noncomputable def zF (K:Frag) (C:Addr) (x:Str):Bool:=
 (match clsIn K C with | some cd=>cd.hasDict | none=>false)&&I7 (findIn K (.ref C) x)&&
  Fq (findIn K (.ref C) "__getattribute__") "object.__getattribute__"
theorem Fr {es:List DictEntry} {n:Nat} {m:List (Attr×AV)} {x:Attr} {r:AV} (h:bT es m) (e:lM m x=some r):∃v,lookIn x.name (dictOf es n)=some (some v)/\er v=r:=by
 show ae (h.find e) fun d hd hv=>?_;show⟨d.val,?_,hv⟩;unfold lookIn;simp only [dictOf,hd]
theorem tA {K:Frag} {C:Addr} {o:Obj} {x:Str} {v:Value} {cd:ClassData} (hcd:clsIn K C=some cd) (k1:cd.hasDict=true) (hfi:findIn K (.ref C) x=some none) (hl:lookIn x o=some (some v)):findObj K C (some o) x=some (.value v):=by
 have e:PySem.W.ownOf cd (some o) x=some (some v):=(eM k1).trans hl
 delta findObj
 rw[hcd];change Option.bind (findIn K (.ref C) x) _=_;rw[hfi];change Option.bind (PySem.W.ownOf cd (some o) x) _=_;rw[e];rfl
theorem I8 {c:Cx F} {l:aO} {σ:AS} {s:Shared} {a C N:Addr} {m:List (Attr×AV)} {x:Attr} {r:AV} {Q:aG} {E:Value->Shared->Prop} (S:St c l σ s) (ha:σ a=some (.inst C N)) (hN:σ N=some (.ns m))
 (hx:lM m x=some r) (ok:zF (KK Ω.w.params) C x.name=true) (hr:∀i,r≠.fn i) (h:Q r σ):
 wpAny (model Ω.p Ω.w) c.A (getAttr (.ref a) x.name true) (EP c l Q) E s:=by
 obtain⟨_,oa,hoa,e1,e2,e3,e4⟩:=S.rs.own a _ ha;obtain⟨_,oN,hoN,es,nn,rfl,hm⟩:=S.rs.own N _ hN;unfold zF at ok;simp only [nH] at ok;obtain⟨⟨k1,k2⟩,k3⟩:=ok;cases hcd:clsIn (KK Ω.w.params) C with
 | none=>rw[hcd] at k1;cases k1
 | some cd=>
  rw[hcd] at k1;have hfi:findIn (KK Ω.w.params) (.ref C) x.name=some none:=zE k2;have hga:findIn (KK Ω.w.params) (.ref C) "__getattribute__"=some (some (.builtin "object.__getattribute__")):=qq k3;show ae (Fr (n:=nn) hm hx) fun v hlv hv'=>?_;have hfo:findObj (KK Ω.w.params) C (some (dictOf es nn)) x.name=some (.value v):=by
   show tA hcd k1 hfi hlv
  have I:InstAt s.heap a oa C (some (dictOf es nn)):=⟨hoa,e1,e2,by rw[e3];show hoN⟩;show get_value (fun a o q=>S.baseKeeps a o (c.world.inK a o q)) I hga hfo ?_ (aS σ S.tok (by rw[hv'];show h));cases v with
  | builtin i=>show absurd hv'.symm (hr i)
  | _=>rfl
noncomputable def Bs:AV->Bool
 | .fn _=>false
 | _=>true
structure AttrJ (w:World) (v:AV) (a:Attr) (σ:AS) (Q:aG):Prop where
 run:∃p C N m r,v= .ref p/\σ p=some (.inst C N)/\σ N=some (.ns m)/\lM m a=some r/\zF (KK w.params) C a.name=true/\Bs r=true/\Q r σ
theorem AttrJ.of {a:Attr} {p C N:Addr} {m:List (Attr×AV)} {r:AV} {σ:AS} {Q:aG} (h1:σ p=some (.inst C N)) (h2:σ N=some (.ns m)) (h3:lM m a=some r) (h4:zF (KK Ω.w.params) C a.name=true) (h5:Bs r=true) (h:Q r σ):
 AttrJ Ω.w (.ref p) a σ Q:=⟨p,C,N,m,r,rfl,h1,h2,h3,h4,h5,h⟩
noncomputable abbrev TM (w:World) (a:Attr) (Q:aG):aG:=fun v σ=>AttrJ w v a σ Q
namespace CE
noncomputable def attr (x:CE F) (a:Attr) (pos:Pos):CE F where
 e:= .Attribute x.e a.name pos
 tr:=fun k lc σ Q X=>gd (Dl x.e) (x.tr k lc σ (TM Ω.w a Q) X)
 ok:=fun c k lc σ s Q X R S h=>Attribute_any_ (dw (x.ok c k lc σ s _ X R S (gh h).2) (fun v UB hp=>ae hp fun Uv Uz J=>Sy J.run fun p C N m r e h1 h2 h3 h4 h5 h6=>by
  rw[ah e];show I8 Uz h1 h2 h3 h4 (fun i q=>by rw[q] at h5;cases h5) h6) fun _ _ e=>e) (by change(attributeBase x.e a.name c.env (eval x.e c.env)>>=_)=_;rw[vq (gh h).1])
end CE
noncomputable def vu (K:Frag) (C:Addr) (x:Str):Bool:=
 (match clsIn K C with | some cd=>cd.hasDict | none=>false)&&(plainOver K C || C==71)&&I7 (takerIn K C x)&&
  Fq (findIn K (.ref C) "__setattr__") "object.__setattr__"
theorem bT.noRef {x:Attr} {es:List DictEntry} {m:List (Attr×AV)} (h:bT es m):(!es.any (·.key.isStr x.name)&&es.any (·.refKey))=false:=by
 have:es.any (·.refKey)=false:=by
  induction es generalizing m with
  | nil=>rfl
  | cons e es ih=>
   cases m with
   | nil=>show h.elim
   | cons p m=>
    obtain⟨⟨t,hk⟩,hv,h⟩:=h;rw[List.any_cons,ih h];obtain⟨a,b,c⟩:=e;cases hk;rfl
 rw[this,Bool.and_false]
theorem Qv (P:Params):(clsIn (KK P) 71).map (fun cd=>cd.mro)=some [.ref 71,.ref 46,.type "Exception",.type "BaseException",.type "object"]:=zk
theorem G2 {A:Around} {x:Addr} {ox:Obj} {od:Option Obj} {name:Str} {tk:Tok} {v:Value} {s:Shared} {R:Result->Shared->Prop} (X:(KK Ω.w.params).In s.heap) (I:InstAt s.heap x ox 71 od) (ht:takerIn (KK Ω.w.params) 71 name=some none)
 (h:∀b,wpAny (model Ω.p Ω.w) A.in1 (Builtin.ObjectAttr.storeInOwnDict (.ref x) (.ref 71) (.str name tk) name v b)
  (fun fin s'=>match fin with | .done f=>R (.ok f) s' | .again c'=>c'.quiet=true/\codeAny (model Ω.p Ω.w) A c' R s') (fun e s'=>R (.error e) s') s):
 codeAny (model Ω.p Ω.w) A (.call (.builtin "object.__setattr__") ⟨[.ref x,.str name tk,v],[]⟩) R s:=by
 have SF:=PySem.F.store_object;obtain⟨cd,hc,hm'⟩:∃cd,clsIn (KK Ω.w.params) 71=some cd/\cd.mro=[.ref 71,.ref 46,.type "Exception",.type "BaseException",.type "object"]:=Qb.mp (Qv Ω.w.params);have sub:Looks (model Ω.p Ω.w) s.heap (isInstance (.ref x) (.type "object")) true:=I.type.andThen (looks_mroIn X (by unfold mroIn;rw[hc,Option.bind_some,hm',dr zd];rfl));show codeAny_call_builtin SF.slot.plain SF.entry (@check_slot (model Ω.p Ω.w) _ _ s "object.__setattr__" "object" "__setattr__" (.ref x) [.str name tk,v] [] _ SF.kind SF.split sub (SF.args (.ref x) (.str name tk) v) ?_);show ae (Option.bind_eq_some_iff.mp ht) fun attr ha hr=>?_;have hm:Looks (model Ω.p Ω.w) s.heap (mroOf (.ref 71)) cd.mro:=(looks_clsIn X hc).andThen .now;have L3:Looks (model Ω.p Ω.w) s.heap (Builtin.ObjectAttr.storeTaker? attr) none:=by
  cases attr with
  | none=>cases hr;show .now
  | some a=>
   show ae (Qb.mp hr) fun b hb e=>?_;show(looks_takesIn X hb).andThen ?_;cases b
   . show .now
   . cases e
 rw[osa_eq,refuse_eq];show aJ (aJ (I.type.here (aJ (hm.here ?_))));rw[hm',refuseLoop_ref,refuseLoop_ref,PySem.F.store_Exception.passes];show cS (aJ (I.type.here (aJ ((looks_findIn X ha).here (aJ (L3.here ?_))))));show h _
structure j9 (k:Nat) (v:AV) (x:Attr) (u:AV) (σ:AS) (Q:AS->Prop):Prop where
 run:(∃a C N m,v= .ref a/\(σ a=some (.inst C N)\/∃t,σ a=some (.exc C t (some N)))/\σ N=some (.ns m)/\vu (KK Ω.w.params) C x.name=true/\(eB m x u).length<=1000/\Q (σ.set N (.ns (eB m x u))))\/
  ∃a t,v= .ref a/\σ a=some (.exc 71 t none)/\vu (KK Ω.w.params) 71 x.name=true/\∀N,σ N=none->N≠a->Q ((σ.set N (.ns [(x,u)])).set a (.exc 71 t (some N)))
theorem j9.of {k:Nat} {a C N:Addr} {m:List (Attr×AV)} {x:Attr} {u:AV} {σ:AS} {Q:AS->Prop} (ha:σ a=some (.inst C N)) (hN:σ N=some (.ns m)) (ok:vu (KK Ω.w.params) C x.name=true) (hz:(eB m x u).length<=1000) (h:Q (σ.set N (.ns (eB m x u)))):
 j9 k (.ref a) x u σ Q:=⟨.inl ⟨a,C,N,m,rfl,.inl ha,hN,ok,hz,h⟩⟩
theorem j9.ofExc {k:Nat} {a t N:Addr} {m:List (Attr×AV)} {x:Attr} {u:AV} {σ:AS} {Q:AS->Prop} (ha:σ a=some (.exc 71 t (some N))) (hN:σ N=some (.ns m)) (ok:vu (KK Ω.w.params) 71 x.name=true) (hz:(eB m x u).length<=1000) (h:Q (σ.set N (.ns (eB m x u)))):
 j9 k (.ref a) x u σ Q:=⟨.inl ⟨a,71,N,m,rfl,.inr ⟨t,ha⟩,hN,ok,hz,h⟩⟩
theorem j9.ofExc0 {k:Nat} {a t:Addr} {x:Attr} {u:AV} {σ:AS} {Q:AS->Prop} (ha:σ a=some (.exc 71 t none)) (ok:vu (KK Ω.w.params) 71 x.name=true) (h:∀N,σ N=none->N≠a->Q ((σ.set N (.ns [(x,u)])).set a (.exc 71 t (some N)))):
 j9 k (.ref a) x u σ Q:=⟨.inr ⟨a,t,rfl,ha,ok,h⟩⟩
theorem Bt {K:Frag} {C:Addr} {x:Str} (ok:vu K C x=true):∃cd,clsIn K C=some cd/\cd.hasDict=true/\(plainOver K C=true\/C=71)/\takerIn K C x=some none/\findIn K (.ref C) "__setattr__"=some (some (.builtin "object.__setattr__")):=by
 unfold vu at ok;simp only [nH] at ok;obtain⟨⟨⟨k1,hp⟩,k2⟩,k3⟩:=ok;cases hcd:clsIn K C with
 | none=>rw[hcd] at k1;cases k1
 | some cd=>
  rw[hcd] at k1;show⟨cd,rfl,k1,?_,?_,?_⟩
  . rcases Bool.or_eq_true_iff.mp hp with q | q
    . show .inl q
    . show .inr (Bi q)
  . show zE k2
  . show qq k3
theorem MF (W:WW) {k:Nat} {σ:AS} {o v:Value} {x:Attr} {Q:AS->Prop} {X:cC} (J:j9 k (er o) x (er v) σ Q):MA k (setAttr o x.name v) σ (fun _=>Q) X:=by
 rcases J.run with ⟨a,C,N,m,ea,ha,hN,ok,hz,hq⟩ | ⟨a,t,ea,ha,ok,hq⟩
 . rw[ah ea];show⟨fun A Up g s hA hH R O rs=>?_⟩;obtain⟨oa,hoa,e1,e2,e3⟩:∃oa,s.heap.get? a=some oa/\oa.cls= .ref C/\notCls oa=true/\oa.dict=some N:=by
    rcases ha with ha | ⟨t,ha⟩
    . obtain⟨_,oa,hoa,e1,e2,e3,e4⟩:=rs.own a _ ha;show⟨oa,hoa,e1,e2,e3⟩
    . obtain⟨_,oa,hoa,rfl⟩:=rs.own a _ ha;show⟨_,hoa,rfl,rfl,rfl⟩
   obtain⟨gN,oN,hoN,es,nn,rfl,hm⟩:=rs.own N _ hN;have X:(KK Ω.w.params).In s.heap:=fun a o q=>rs.keep a o (O.keeps a o (W.inK a o q));have X1:(KK Ω.w.params).In {s with toks:=s.toks+1}.heap:=X;show Qn (Bt ok) fun cd hcd k1 hp ht hs=>?_;have I:InstAt s.heap a oa C (some (dictOf es nn)):=⟨hoa,e1,e2,by rw[e3];show hoN⟩;show set_plain X I hs ?_;show(fun h=>hp.elim (fun hp=>osa_open (s:={s with toks:=s.toks+1}) X1 I hp ht h) fun z=>by subst z;show G2 (s:={s with toks:=s.toks+1}) X1 I ht h) fun b=>?_;obtain⟨hx,hcl,hn,-⟩:=I;obtain⟨oc,odi,oda,osl⟩:=oa;dsimp only at hcl e3;subst hcl e3;show aJ (cS (aJ (aJ (wpAny_loadPart hx (aJ ((looks_clsIn X1 hcd).here ?_))))));rw[show cd.hasDict=true from k1];show cS (a:=some N) (aJ (cS (aJ ?_)));unfold nsSet;show aJ (aJ (wpAny_askSetting (cS (aJ (wpAny_mkText (aJ (wpAny_loadPart hoN ?_)))))));dsimp only;rw[aRefKeyMayBeTheName_at,<-Array.any_toList,<-Array.any_toList];simp only [hm.noRef];have up:=fun(hsh:Int) (t:Tok)=>Heap.get?_update_self (Obj.putName x.name hsh (.str x.name t) v) hoN (by rw[putName_dict];rfl);show wpAny_updatePart hoN ?_;show aJ (wpAny_lookBehind (up _ _) ?_ ?_)
   . rw[putName_dict];show pastItsLine_dict (by rw[No,(hm.put).length,mU];lia)
   show cS (aS _ (rs.put gN (Heap.SameBut.update _ _ _).extBut (up _ _) ?_) hq)
   . rw[putName_dict];show⟨_,_,rfl,hm.put⟩
 . rw[ah ea];show⟨fun A Up g s hA hH R O rs=>?_⟩;obtain⟨ga,oa,hoa,rfl⟩:=rs.own a _ ha;have X:(KK Ω.w.params).In s.heap:=fun a o q=>rs.keep a o (O.keeps a o (W.inK a o q));have X1:(KK Ω.w.params).In {s with toks:=s.toks+1}.heap:=X;show Qn (Bt ok) fun cd hcd k1 _ ht hs=>?_;have I:InstAt s.heap a {cls:= .ref 71,dict:=none,data:= .fields #[.ref t,.none,.none,.none,.bool false,.none]} 71 none:=⟨hoa,rfl,rfl,trivial⟩;show set_plain X I hs (G2 (s:={s with toks:=s.toks+1}) X1 I ht fun b=>?_);show aJ (cS (aJ (aJ (wpAny_loadPart hoa (aJ ((looks_clsIn X1 hcd).here ?_))))));rw[show cd.hasDict=true from k1];dsimp only;rw[dr zd];show aJ (wpAny_alloc (aJ (wpAny_update (qo _ hoa) (cS (a:=some s.heap.objs.size) ?_))));have ne:a≠s.heap.objs.size:=Nat.ne_of_lt (va hoa);have fr:s.heap.get? s.heap.objs.size=none:=by
    cases q:s.heap.get? s.heap.objs.size with
    | none=>rfl
    | some o=>show absurd (va q) (Nat.lt_irrefl _)
   have hoN:((s.heap.push (dictOf [] 0)).update a (fun o=>{o with dict:=some s.heap.objs.size})).get? s.heap.objs.size=some (dictOf [] 0):=by
    rw[Heap.get?_update_other _ _ ne];show zA _ rfl
   have hoa2:((s.heap.push (dictOf [] 0)).update a (fun o=>{o with dict:=some s.heap.objs.size})).get? a=some {cls:= .ref 71,dict:=some s.heap.objs.size,data:= .fields #[.ref t,.none,.none,.none,.bool false,.none]}:=
    Heap.get?_update_self _ (qo _ hoa) rfl
   show aJ (cS (aJ ?_));unfold nsSet;show aJ (aJ (wpAny_askSetting (cS (aJ (wpAny_mkText (aJ (wpAny_loadPart hoN ?_)))))));dsimp only;have hm:bT [] []:=trivial;rw[aRefKeyMayBeTheName_at,<-Array.any_toList,<-Array.any_toList];simp only [hm.noRef];have up:=fun(hsh:Int) (t:Tok)=>Heap.get?_update_self (Obj.putName x.name hsh (.str x.name t) v) hoN (by rw[putName_dict];rfl);show wpAny_updatePart hoN ?_;show aJ (wpAny_lookBehind (up _ _) ?_ ?_)
   . rw[putName_dict];show pastItsLine_dict (by rw[No,(hm.put).length,mU];show Nat.succ_le_succ (Nat.zero_le _))
   show cS ?_;have r0:RS Ω.p Ω.w g (σ.set s.heap.objs.size (.ns [])) ⟨s.heap.push (dictOf [] 0),s.gens,s.drawn,s.toks,s.os⟩:=rs.new fr (fun b o e=>qo _ e) (zA _ rfl) ⟨[],0,rfl,trivial⟩;have r1:RS Ω.p Ω.w g ((σ.set s.heap.objs.size (.ns [])).set a (.exc 71 t (some s.heap.objs.size))) ⟨(s.heap.push (dictOf [] 0)).update a (fun o=>{o with dict:=some s.heap.objs.size}),s.gens,s.drawn,s.toks,s.os⟩:=
    r0.put ga (Heap.SameBut.update _ _ _).extBut hoa2 rfl
   have gN:=rs.none_of fr;show⟨_,r1.put (o:= .ns [(x,er v)]) gN (Heap.SameBut.update _ _ _).extBut (up _ _) ?_,?_⟩
   . rw[putName_dict];show⟨_,_,rfl,hm.put⟩
   . have e:(((σ.set s.heap.objs.size (.ns [])).set a (.exc 71 t (some s.heap.objs.size))).set s.heap.objs.size (.ns [(x,er v)]))=((σ.set s.heap.objs.size (.ns [(x,er v)])).set a (.exc 71 t (some s.heap.objs.size))):=by
      funext b;simp only [AS.set];by_cases q:b=s.heap.objs.size
      . rw[eM q,dr (fun z=>ne (z.symm.trans q)),eM q]
      . rw[dr q,dr q,dr q]
     rw[e];show hq _ (rs.free_of fr) (ez ne)
noncomputable abbrev kN (l:aO) (Q:ax):AS->Prop:=fun σ=>Q .next l σ
noncomputable abbrev TN (k:Nat) (l:aO) (a:Attr) (u:AV) (Q:ax):aG:=fun p σ=>j9 k p a u σ (kN l Q)
noncomputable abbrev TO (o:CE F) (k:Nat) (l:aO) (a:Attr) (Q:ax) (X:cC):aG:=fun u σ=>o.tr k l σ (TN k l a u Q) X
noncomputable def CS.setattr (v o:CE F) (a:Attr) (pos' pos:Pos):CS F where
 b:= .Assign [.Attribute o.e a.name pos'] v.e pos
 tr:=fun k l σ Q X=>v.tr k l σ (TO o k l a Q X) X
 ok:=fun c k l σ s Q X R S h=>plainObj_wpAny_Assign_Attribute (gH (v.ok c k l σ s _ X R S h) fun u UB Uv Uz UE=>gH (o.ok c k l Uv UB _ X R Uz UE) fun p UC Uw UA J=>
  gH ((MF c.world J).lift R UA) fun _ UD Ux S₃ UG=>(xh _ l Ux rfl S₃ UG)) (Do ..)
end
set_option tactic.hygienic false
noncomputable section
namespace CE
noncomputable def glob (x:Str) (v:Value) (pos:Pos) (hx:F.scope.names.lookup x=some .globalImplicit) (hd:(x==("__debug__":Str))=false) (hv:nsIn (KK Ω.w.params) mainGlobals x=some (some v)):CE F where
 e:= .Name x pos
 tr:=fun _ _ σ Q _=>Q (er v) σ
 ok:=fun c k l σ s Q X R S h=>Name_function_global F.fn hx (loadGlobal_global (c.world.top.g.keeps S.baseKeeps) (mg_of c.world.inK c.world.top.g hv) (aS σ S.tok h)) hd
noncomputable def built (x:Str) (v:Value) (pos:Pos) (hx:F.scope.names.lookup x=some .globalImplicit) (hd:(x==("__debug__":Str))=false) (hn:nsIn (KK Ω.w.params) mainGlobals x=some Option.none) (hv:bootBuiltins x=some v) (hm:x≠"__name__"):CE F where
 e:= .Name x pos
 tr:=fun _ _ σ Q _=>Q (er v) σ
 ok:=fun c k l σ s Q X R S h=>Name_function_global F.fn hx (loadGlobal_builtin (c.world.top.g.keeps S.baseKeeps) (mg_none_of c.world.inK c.world.top.g hn) (c.world.top.b.keeps S.baseKeeps) ((c.world.top.builtins x hm).trans hv) (aS σ S.tok h)) hd
end CE
end
set_option tactic.hygienic true
noncomputable section
noncomputable def Qw (r:Option (Option Value)) (f:Addr):Bool:=match r with | some (some (.ref g))=>g==f | _=>false
noncomputable def Qx (r:Option Value) (T:String):Bool:=match r with | some (.type t)=>t==T | _=>false
theorem I9 {r:Option (Option Value)} {f:Addr} (h:Qw r f=true):r=some (some (.ref f)):=by
 cases r with
 | none=>show ff h
 | some r=>cases r with
  | none=>show ff h
  | some v=>
   cases v
   case ref j=>rw[Bi h]
   all_goals show ff h
theorem Ja {r:Option Value} {T:String} (h:Qx r T=true):r=some (.type T):=by
 cases r with
 | none=>show ff h
 | some v=>
  cases v
  case type j=>rw[Bi h]
  all_goals show ff h
noncomputable def iL (K:Frag) (C:Addr) (x:Str) (f:Addr):Bool:=
 Fq (findIn K (.ref C) "__getattribute__") "object.__getattribute__"&&
  I7 (findIn K (.ref C) "__getattr__")&&
  Qw (findIn K (.ref C) x) f&&
  Qx (typeIn K (.ref f)) "function"&&keepIn K (.ref f)
theorem zG {K:Frag} {C:Addr} {x:Str} {f:Addr} (h:iL K C x f=true):keepIn K (.ref f)=true:=by
 delta iL at h
 show(nH _ _▸h:_/\_).2
noncomputable def Dq (K:Frag) (C:Addr) (x:Str) (f:Addr):Bool:=iL K C x f&&(Attr.find x).isNone
noncomputable def lO (m:List (Attr×AV)) (x:Str):Bool:=m.all fun p=>!decide (p.1.name=x)
theorem Fs {m:List (Attr×AV)} {x:Str} (h:Attr.find x=none):lO m x=true:=by
 delta lO
 rw[Di];intro p _;have ne:p.1.name≠x:=fun q=>by rw[<-q,Attr.find_name] at h;cases h
 simpa using ne
theorem yD {K:Frag} {C:Addr} {x:Str} {f:Addr} {m:List (Attr×AV)} (h:Dq K C x f=true):iL K C x f=true/\lO m x=true:=by
 delta Dq at h
 rw[nH] at h;show⟨h.1,Fs (Option.isNone_iff_eq_none.mp h.2)⟩
theorem bT.noName {y:Str} {es:List DictEntry} {m:List (Attr×AV)} (hy:lO m y=true) (h:bT es m):es.find? (·.key.isStr y)=none/\es.any (·.refKey)=false:=by
 induction es generalizing m with
 | nil=>show⟨rfl,rfl⟩
 | cons e es ih=>
  cases m with
  | nil=>show h.elim
  | cons p m=>
   obtain⟨⟨t,hk⟩,hv,h⟩:=h
   delta lO at hy
   rw[List.all_cons,nH] at hy;show aL (ih hy.2 h) fun a b=>?_;have ne:p.1.name≠y:=by simpa using hy.1
   show⟨?_,?_⟩
   . rw[List.find?_cons,hk,show(Value.str p.1.name t).isStr y=false by simpa [Value.isStr] using ne];show a
   . rw[List.any_cons,b];obtain⟨e1,e2,e3⟩:=e;cases hk;rfl
theorem Jb {c:Cx F} {l:aO} {σ:AS} {s:Shared} {a C N f:Addr} {m:List (Attr×AV)} {x:Str} {pl:Sem Bool} {Q:Value×List Value->Shared->Prop} {E:Value->Shared->Prop} (S:St c l σ s) (ha:σ a=some (.inst C N)) (hN:σ N=some (.ns m))
 (ok:iL (KK Ω.w.params) C x f=true) (nf:lO m x=true) (h:Q (.ref f,[.ref a]) s):wpAny (model Ω.p Ω.w) c.A (getMethod (.ref a) x pl) Q E s:=by
 obtain⟨_,oa,hoa,e1,e2,e3,e4⟩:=S.rs.own a _ ha;obtain⟨gN,oN,hoN,es,nn,rfl,hm⟩:=S.rs.own N _ hN
 delta iL at ok
 simp only [nH] at ok;obtain⟨⟨⟨⟨k1,k2⟩,k3⟩,k4⟩,-⟩:=ok;have hga:findIn (KK Ω.w.params) (.ref C) "__getattribute__"=some (some (.builtin "object.__getattribute__")):=qq k1;have hk:findIn (KK Ω.w.params) (.ref C) "__getattr__"=some none:=zE k2;have hf:findIn (KK Ω.w.params) (.ref C) x=some (some (.ref f)):=I9 k3;have ht:typeIn (KK Ω.w.params) (.ref f)=some (.type "function"):=Ja k4;have I:InstAt s.heap a oa C (some (dictOf es nn)):=⟨hoa,e1,e2,by rw[e3];show hoN⟩;show method_fn (fun a o q=>S.baseKeeps a o (c.world.inK a o q)) I hga hk hf ht ?_ h;show aL (hm.noName nf) fun q1 q2=>?_
 delta shadowIn lookIn
 simp only [q1,q2];rfl
end
set_option tactic.hygienic false
noncomputable section
theorem da.make {A:Around} {k:Nat} {C:Addr} {Us:List Value} (R:da A (k+1)):da (A.under (.builtin "type.__call__" ⟨.ref C::Us,[]⟩)) k:=by
 show aL R fun a b=>?_;show⟨?_,?_⟩
 . change A.depth+1+4*k<recursionLimit;lia
 . change A.units+1+16*k<cLine;lia
theorem iM (W:WW) {C f:Addr} {vs:List AV} {σ:AS} {Q:aG} {X:cC} {k:Nat} (hm:makesIn (KK Ω.w.params) C=true) (hi:findIn (KK Ω.w.params) (.ref C) "__init__"=some (some (.ref f)))
 (hf:typeIn (KK Ω.w.params) (.ref f)=some (.type "function")) (J:∀a N,σ a=none->σ N=none->a≠N->kO k (.ref f) (.ref a::vs) ((σ.set N (.ns [])).set a (.inst C N)) (fun r UH=>r= .none/\Q (.ref a) UH) X):
 aa (k+1) (.ref C) vs σ Q X:=by
 show⟨fun A Up g s fv vv hA hH R O rs hf' hv=>?_⟩;rw[ah hf'];obtain⟨hh,gg,d,t,os⟩:=s;have X0:(KK Ω.w.params).In hh:=fun a o q=>rs.keep a o (O.keeps a o (W.inK a o q));show wpAny_call (make_core (makes_of X0 hm) (looks_findIn X0 hi) (fun self=>bind_fn X0 self hf) (.inl rfl) ?_);have fresh:∀n,hh.objs.size<=n->hh.get? n=none:=fun n hn=>by
  cases q:hh.get? n with
  | none=>rfl
  | some o=>show absurd (va q) (Nat.not_lt.mpr hn)
 have r1:RS Ω.p Ω.w g (σ.set hh.objs.size (.ns [])) ⟨hh.push emptyDict,gg,d,t,os⟩:=rs.new (fresh _ (Nat.le_refl _)) (fun b o e=>qo _ e) (zA _ rfl) ⟨[],0,rfl,trivial⟩;have r2:RS Ω.p Ω.w g ((σ.set hh.objs.size (.ns [])).set (hh.objs.size+1) (.inst C hh.objs.size)) ⟨(hh.push emptyDict).push (instObj C hh.objs.size),gg,d,t,os⟩:=by
  have e:(hh.push emptyDict).get? (hh.objs.size+1)=none:=by
   cases q:(hh.push emptyDict).get? (hh.objs.size+1) with
   | none=>rfl
   | some o=>have:=va q;rw[Heap.size_push] at this;show absurd this (Nat.lt_irrefl _)
  have e2:((hh.push emptyDict).push (instObj C hh.objs.size)).get? (hh.objs.size+1)=some (instObj C hh.objs.size):=by
   have:=zA (o:=instObj C hh.objs.size) (hh.push emptyDict) rfl
   rwa [Heap.size_push] at this
  show r1.new e (fun b o q=>qo _ q) e2 ⟨rfl,rfl,rfl,rfl⟩
 have J':=(J (hh.objs.size+1) hh.objs.size (rs.free_of (fresh _ (Nat.le_succ _))) (rs.free_of (fresh _ (Nat.le_refl _))) (Nat.succ_ne_self _)).run (A.under (.builtin "type.__call__" ⟨.ref C::vv,[]⟩)) Up g
  ⟨(hh.push emptyDict).push (instObj C hh.objs.size),gg,d,t,os⟩ (.ref f) (.ref (hh.objs.size+1)::vv) hA hH R.make O r2 rfl (by rw[dI,hv];rfl)
 show codeAny_mono J' fun r s' z=>?_;rcases r with e | (v | _ | _ | _)
 . show z
 all_goals first | show z.elim | skip
 show j8 z fun UH r' e q=>?_;show⟨dU e,UH,r',q⟩
end
noncomputable section
open MeetsSeq
theorem xn {vv:List Value} {a:AV} (h:vv.map er=[a]):∃u,vv=[u]/\er u=a:=by
 cases vv with
 | nil=>cases h
 | cons u r=>cases r with
  | nil=>show⟨u,rfl,(List.cons.inj h).1⟩
  | cons _ _=>cases h
theorem GI {vv:List Value} {a b:AV} (h:vv.map er=[a,b]):∃u v,vv=[u,v]/\er u=a/\er v=b:=by
 cases vv with
 | nil=>cases h
 | cons u r=>
  show aL (List.cons.inj h) fun h1 h2=>?_;show ae (xn h2) fun v hr1 e=>?_;rw[hr1];show⟨u,v,rfl,h1,e⟩
theorem TP {vv:List Value} {a b c:AV} (h:vv.map er=[a,b,c]):∃u v x,vv=[u,v,x]/\er u=a/\er v=b/\er x=c:=by
 cases vv with
 | nil=>cases h
 | cons u r=>
  show aL (List.cons.inj h) fun h1 h2=>?_;show bQ (GI h2) fun v x hr2 e=>?_;rw[hr2];show(xh u v x rfl h1 e)
section
variable {Up:List Env} {g:Fz} {s s':Shared}
theorem aZ (r:RS Ω.p Ω.w g σ s) {p:Addr} {xs:List AV} (e:σ p=some (.list xs)):∃vs n,IsL s.heap p vs n/\vs.toList.map er=xs/\g.f p=none:=by
 obtain⟨hg,ob,ho,vs,n,rfl,he⟩:=r.own p _ e;show⟨vs,n,ho,he,hg⟩
theorem cu (r:RS Ω.p Ω.w g σ s) (O:eD Ω.b Up g) {p:Addr} {xs:List AV} (e:tu Ω σ p (.tup xs)):∃vs n,IsT s.heap p vs n/\vs.toList.map er=xs:=by
 rcases e with e | ⟨ob,hb,vs,n,rfl,he⟩
 . obtain⟨hg,ob,ho,vs,n,rfl,he⟩:=r.own p _ e;show⟨vs,n,ho,he⟩
 . show⟨vs,n,r.keep _ _ (O.keeps _ _ hb),he⟩
theorem a7 (h:Heap):h.get? h.objs.size=none:=by
 cases q:h.get? h.objs.size with
 | none=>rfl
 | some o=>show absurd (va q) (Nat.lt_irrefl _)
theorem RS.alloc (r:RS Ω.p Ω.w g σ s) {ob:Obj} {o:AO} (hf:ob.isFreed=false) (e:AO.Of Ω.p Ω.w ob o) (q:s'.heap=s.heap.push ob/\vn s s':=by show⟨rfl,rfl,rfl⟩):RS Ω.p Ω.w g (σ.set s.heap.objs.size o) s':=
 r.new (a7 s.heap) (fun b o z=>by rw[q.1];show qo _ z) (by rw[q.1];show zA _ hf) e q.2
theorem RS.free (r:RS Ω.p Ω.w g σ s):σ s.heap.objs.size=none:=r.free_of (a7 s.heap)
end
theorem dW {vs:Array Value} {n:Nat} {xs:List AV} (e:vs.toList.map er=xs):AO.Of Ω.p Ω.w {cls:= .type "list",data:= .seq vs n} (.list xs):=⟨vs,n,rfl,e⟩
theorem Dr {vs:Array Value} {n:Nat} {xs:List AV} (e:vs.toList.map er=xs):AO.Of Ω.p Ω.w {cls:= .type "tuple",data:= .seq vs n} (.tup xs):=⟨vs,n,rfl,e⟩
theorem ka {α β:Type} (f:α->β):∀(l:List α) (i:Nat),(l.eraseIdx i).map f=(l.map f).eraseIdx i
 | [],_=>rfl
 | _::_,0=>rfl
 | _::l,i+1=>by simp [ka f l i]
theorem bK {vs:Array Value} {xs:List AV} (e:vs.toList.map er=xs) {i:Nat} {x:AV} (h:xs[i]?=some x):∃v,vs[i]?=some v/\er v=x:=by
 rw[<-e,nG] at h;cases q:vs.toList[i]? with
 | none=>rw[q] at h;cases h
 | some v=>
  rw[q] at h;show⟨v,by rw[<-GF];show q,ql h⟩
theorem aj {vs:Array Value} {xs:List AV} (e:vs.toList.map er=xs):vs.size=xs.length:=by rw[<-e,a9,Array.length_toList]
theorem dx {p:Addr} {v:AV} {xs:List AV} (h:σ p=some (.list xs)) (hz:xs.length<=1000000) (hq:Q .none (σ.set p (.list (xs++[v])))):aa k (.fn "list.append") [.ref p,v] σ Q X:=by
 show⟨fun A Up g s fv vv hA hH R O rs hf hv=>?_⟩;rw[dL hf];show aH (GI hv) fun a b hr2 ha hr4=>?_;subst hr2;subst hr4;rw[ah ha];show aH (aZ rs h) fun vs n hl he hg=>?_;have hz':vs.size<=sizeLine:=by rw[aj he,mU];lia
 show call_meets F.slot_list_append (aS _ hl rfl) F.entry_list_append (F.args_list_append_2 _ _) (list_append p vs n b hz') ⟨hl,_,rs.put hg (Heap.SameBut.update _ _ _).extBut (hl.update _) (dW ?_),hq⟩;simp [he]
theorem G3 {p:Addr} {v:AV} {xs:List AV} (h:σ p=some (.list (xs++[v]))) (hz:xs.length<=1000000) (hq:Q v (σ.set p (.list xs))):aa k (.fn "list.pop") [.ref p] σ Q X:=by
 show⟨fun A Up g s fv vv hA hH R O rs hf hv=>?_⟩;rw[dL hf];show ae (xn hv) fun a hr1 ha=>?_;rw[hr1];rw[ah ha];show aH (aZ rs h) fun vs n hl he hg=>?_;have hs:vs.size=xs.length+1:=by rw[aj he];simp
 have hz':vs.size<=sizeLine:=by rw[hs,mU];lia
 obtain⟨y,hy,hyv⟩:=bK (i:=vs.size-1) (x:=v) he (by rw[hs];simp);show call_meets F.slot_list_pop (aS _ hl rfl) F.entry_list_pop (F.args_list_pop_1 _) (list_pop_last p vs n y hy hz') ⟨hl,_,rs.put hg (Heap.SameBut.update _ _ _).extBut (hl.update _) (dW ?_),by rw[hyv];show hq⟩;have lt:vs.size-1<vs.size:=zo;rw[Array.eraseIdxIfInBounds,dif_pos lt,Array.toList_eraseIdx,ka,he,hs,Nat.add_sub_cancel,List.eraseIdx_append_of_length_le (Nat.le_refl _)];simp
theorem Jc {p:Addr} {v:AV} {xs:List AV} (h:σ p=some (.list (v::xs))) (hz:xs.length<=1000000) (hq:Q v (σ.set p (.list xs))):aa k (.fn "list.pop") [.ref p,.int 0] σ Q X:=by
 show⟨fun A Up g s fv vv hA hH R O rs hf hv=>?_⟩;rw[dL hf];show aH (GI hv) fun a b hr2 ha hb=>?_;rw[hr2];rw[ah ha];show aw (aI hb) fun u hr1=>?_;rw[hr1];show aH (aZ rs h) fun vs n hl he hg=>?_;have hs:vs.size=xs.length+1:=by rw[aj he];simp
 have hz':vs.size<=sizeLine:=by rw[hs,mU];lia
 show ae (bK (i:=0) (x:=v) he rfl) fun y hy hyv=>?_;show call_meets F.slot_list_pop (aS _ hl rfl) F.entry_list_pop (F.args_list_pop_2 _ _) (list_pop_at p vs n 0 u 0 y zd (by simp [seqIndex?,hs]) hy hz') ⟨hl,_,rs.put hg (Heap.SameBut.update _ _ _).extBut (hl.update _) (dW ?_),by rw[hyv];show hq⟩;have lt:0<vs.size:=zo;rw[Array.eraseIdxIfInBounds,dif_pos lt,Array.toList_eraseIdx,ka,he];simp
theorem zH {i n:Nat} (h:i<n):seqIndex? (i:Int) n=some i:=by
 have e:¬(i:Int)<0:=zo;simp [seqIndex?,e,h]
theorem G4 {p:Addr} {i:Nat} {v:AV} {xs:List AV} (h:σ p=some (.list xs)) (hi:xs[i]?=some v) (hz:i<1000000) (hq:Q v σ):cj k getItem (.ref p) (.int i) σ Q X:=by
 show⟨fun u x hu hx=>⟨fun A Up g s hA hH R O rs=>?_⟩⟩;rw[ah hu];show aw (aI hx) fun t hr1=>?_;subst hr1;show aH (aZ rs h) fun vs n hl he hg=>?_;show ae (bK he hi) fun y hy hr2=>?_;subst hr2;show wpAny_getItem_list hl.isList zo zo (by simpa using hy) (aS σ rs.tok hq)
theorem zI {p:Addr} {i:Nat} {v:AV} {xs:List AV} (h:σ p=some (.list xs)) (h0:0<i) (hi:i<=xs.length) (hv:xs[xs.length-i]?=some v) (hz:i<1000000) (hq:Q v σ):cj k getItem (.ref p) (.int (-i)) σ Q X:=by
 show⟨fun u x hu hx=>⟨fun A Up g s hA hH R O rs=>?_⟩⟩;rw[ah hu];show aw (aI hx) fun t hr1=>?_;subst hr1;show aH (aZ rs h) fun vs n hl he hg=>?_;show ae (bK he hv) fun y hy hr2=>?_;subst hr2;have hs:=aj he;show wpAny_getItem_list_neg hl.isList zo zo zo ?_ (aS σ rs.tok hq);rw[show(-(i:Int)+(vs.size:Int)).toNat=xs.length-i by lia];show hy
theorem Jd {p:Addr} {i:Nat} {v:AV} {xs:List AV} (h:tu Ω σ p (.tup xs)) (hi:xs[i]?=some v) (hz:i<1000000) (hq:Q v σ):cj k getItem (.ref p) (.int i) σ Q X:=by
 show⟨fun u x hu hx=>⟨fun A Up g s hA hH R O rs=>?_⟩⟩;rw[ah hu];show aw (aI hx) fun t hr1=>?_;subst hr1;show bQ (cu rs O h) fun vs n hl he=>?_;show ae (bK he hi) fun y hy hr2=>?_;subst hr2;show aw (Array.getElem?_eq_some_iff.mp hy) fun hlt _=>?_;show P.getItem_tuple hl zo zo (k:=i) (zH hlt) hy (aS σ rs.tok hq)
theorem bE {p:Addr} {xs:List AV} (h:σ p=some (.list xs)) (hz:xs.length<=1000000) (hq:Q (.int xs.length) σ):aa k (.fn "len") [.ref p] σ Q X:=by
 show⟨fun A Up g s fv vv hA hH R O rs hf hv=>?_⟩;rw[dL hf];show ae (xn hv) fun a hr1 ha=>?_;rw[hr1];rw[ah ha];show aH (aZ rs h) fun vs n hl he hg=>?_;have hs:=aj he;show call_len_list hl.isList zo (aS σ rs.tok (by rw[<-hs] at hq;show hq))
theorem Ds {p:Addr} {xs:List AV} (h:tu Ω σ p (.tup xs)) (hz:xs.length<=1000000) (hq:Q (.int xs.length) σ):aa k (.fn "len") [.ref p] σ Q X:=by
 show⟨fun A Up g s fv vv hA hH R O rs hf hv=>?_⟩;rw[dL hf];show ae (xn hv) fun a hr1 ha=>?_;rw[hr1];rw[ah ha];show bQ (cu rs O h) fun vs n hl he=>?_;have hs:=aj he;show P.len_tuple hl zo (aS σ rs.tok (by rw[<-hs] at hq;show hq))
theorem am {b:LU} (hz:b.length<=100000000) (hq:Q (.int b.length) σ):aa k (.fn "len") [.bytes b] σ Q X:=by
 show⟨fun A Up g s fv vv hA hH R O rs hf hv=>?_⟩;rw[dL hf];show ae (xn hv) fun a hr1 ha=>?_;rw[hr1];show aw (cN ha) fun t hr1=>?_;rw[hr1];show len_bytes zu (aS σ rs.tok hq)
theorem Ft {b:LU} {i:Nat} {c:UInt8} (hi:b[i]?=some c) (hz:b.length<=100000000) (hq:Q (.int c.toNat) σ):cj k getItem (.bytes b) (.int i) σ Q X:=by
 show⟨fun u x hu hx=>⟨fun A Up g s hA hH R O rs=>?_⟩⟩;show aw (cN hu) fun t hr1=>?_;rw[hr1];show aw (aI hx) fun t' hr1=>?_;rw[hr1];show aw (LX.mp hi) fun hlt hc=>?_;show getItem_bytes zo zo zo (aS σ rs.tok ?_);rw[show(List.toArray b).toList.getD i 0=c from by rw[List.getD_eq_getElem?_getD,hi];rfl];show hq
theorem yE {p q:Addr} {xs ys:List AV} (h:σ p=some (.list xs)) (h':σ q=some (.list ys)) (hz:xs.length+ys.length<=1000000) (hq:∀r,σ r=none->Q (.ref r) (σ.set r (.list (xs++ys)))):cj k (binaryOp .Add) (.ref p) (.ref q) σ Q X:=by
 show⟨fun u x hu hx=>⟨fun A Up g s hA hH R O rs=>?_⟩⟩;rw[ah hu,ah hx];show aH (aZ rs h) fun vs n hl he hg=>?_;show aH (aZ rs h') fun vs' n' hl' he' hg'=>?_;have hs:=aj he;have hs':=aj he';show P.add_list hl hl' (aS _ (rs.alloc (o:= .list (xs++ys)) rfl (dW (vs:=vs++vs') (by simp [he,he']))) (hq _ rs.free)) (by rw[mU];lia)
theorem G5 {p q:Addr} {xs ys:List AV} (h:σ p=some (.tup xs)) (h':σ q=some (.tup ys)) (h1:xs≠[]) (h2:ys≠[]) (hz:xs.length+ys.length<=1000000) (hq:∀r,σ r=none->Q (.ref r) (σ.set r (.tup (xs++ys)))):
 cj k (binaryOp .Add) (.ref p) (.ref q) σ Q X:=by
 show⟨fun u x hu hx=>⟨fun A Up g s hA hH R O rs=>?_⟩⟩;rw[ah hu,ah hx];show bQ (cu rs O (.inl h)) fun vs n hl he=>?_;show bQ (cu rs O (.inl h')) fun vs' n' hl' he'=>?_;have hs:=aj he;have hs':=aj he';show P.add_tuple hl hl' ?_ ?_ (aS _ (rs.alloc (o:= .tup (xs++ys)) rfl (Dr (vs:=vs++vs') (by simp [he,he']))) (hq _ rs.free)) (by rw[mU];lia)
 . intro e;rw[Array.isEmpty_iff_size_eq_zero] at e;rw[e] at hs;show h1 (List.length_eq_zero_iff.mp hs.symm)
 . intro e;rw[Array.isEmpty_iff_size_eq_zero] at e;rw[e] at hs';show h2 (List.length_eq_zero_iff.mp hs'.symm)
noncomputable def bl (xs:List (AK×AV)) (x:AK):Option AV:=(xs.find? fun p=>p.1=x).map (·.2)
noncomputable def iH (xs:List (AK×AV)) (x:AK) (v:AV):List (AK×AV):=if xs.any (fun p=>p.1=x) then xs.map (fun p=>if p.1=x then(p.1,v) else p) else xs++[(x,v)]
noncomputable abbrev L4 (p:AK×Value):AK×AV:=(p.1,er p.2)
theorem qr (kvs:List (AK×Value)) (x:AK):bl (kvs.map L4) x=(valueAt kvs x).map er:=by
 delta bl valueAt
 induction kvs with
 | nil=>rfl
 | cons p r ih=>
  by_cases h:p.1=x
  . simp [h]
  . simpa [h] using ih
theorem vw (kvs:List (AK×Value)) (x:AK) (v:Value):(stored kvs x v).map L4=iH (kvs.map L4) x (er v):=by
 delta iH stored
 have e:(kvs.map L4).any (fun p=>p.1=x)=kvs.any (fun p=>p.1=x):=by rw[List.any_map];rfl
 rw[e];split
 . rw[bq,bq];apply GG;intro p _;by_cases h:p.1=x
   . simp [h]
   . simp [h]
 . simp
section
variable {Up:List Env} {g:Fz} {s:Shared}
theorem co (r:RS Ω.p Ω.w g σ s) (O:eD Ω.b Up g) {d:Addr} {ep:Nat} {xs:List (AK×AV)} (e:σ d=some (.dict ep xs)):
 ∃kvs,s.heap.DictAt (bS Ω.p Ω.w) d kvs ep/\kvs.map L4=xs/\g.f d=none/\(d==sysModules)=false:=by
 obtain⟨hg,ob,ho,kvs,es,⟨q1,q2,q3,q4,q5⟩,he⟩:=r.own d _ e;show⟨kvs,⟨ob,es,ho,q1,q2,q3,q4,q5⟩,he,hg,xg.mpr fun z=>?_⟩;show aw O.mods fun o ho'=>?_;rw[<-z,hg] at ho';cases ho'
theorem ke {h':Heap} {d:Addr} {ep:Nat} {kvs:List (AK×Value)} {xs:List (AK×AV)} (x:h'.DictAt (bS Ω.p Ω.w) d kvs ep) (e:kvs.map L4=xs):∃ob,h'.get? d=some ob/\AO.Of Ω.p Ω.w ob (.dict ep xs):=by
 show bQ x fun o es ho r=>?_;show⟨o,ho,kvs,es,r,e⟩
theorem AK.key (x:AK) {v:Value} (h:er v=x.av):(bS Ω.p Ω.w).is x v=true:=AK.is_of h
end
theorem G6 {d:Addr} {ep:Nat} {xs:List (AK×AV)} {x:AK} {v:AV} (h:σ d=some (.dict ep xs)) (hv:bl xs x=some v) (hq:Q v σ):cj k getItem (.ref d) x.av σ Q X:=by
 show⟨fun u y hu hy=>⟨fun A Up g s hA hH R O rs=>?_⟩⟩;rw[ah hu];show po (co rs O h) fun kvs hd he hg hm=>?_;rw[<-he,qr] at hv;cases q:valueAt kvs x with
 | none=>rw[q] at hv;cases hv
 | some z=>
  rw[q] at hv;show wpAny_getItem_of (x.key hy) hd.dictOf.mapOf q (aS σ rs.tok (by rw[ql hv];show hq))
theorem qs {d:Addr} {ep:Nat} {xs:List (AK×AV)} {x:AK} (h:σ d=some (.dict ep xs)) (hq:Q (.bool (bl xs x).isSome) σ):cj k (compareOp .In) x.av (.ref d) σ Q X:=by
 show⟨fun y u hy hu=>⟨fun A Up g s hA hH R O rs=>?_⟩⟩;rw[ah hu];show po (co rs O h) fun kvs hd he hg hm=>?_;show wpAny_in_of (x.key hy) hm hd.dictOf.mapOf (aS σ rs.tok (by rw[<-he,qr,Option.isSome_map] at hq;show hq))
theorem py {d:Addr} {ep:Nat} {xs:List (AK×AV)} {x:AK} (h:σ d=some (.dict ep xs)) (hq:Q (.bool (!(bl xs x).isSome)) σ):cj k (compareOp .NotIn) x.av (.ref d) σ Q X:=by
 show⟨fun y u hy hu=>⟨fun A Up g s hA hH R O rs=>?_⟩⟩;rw[ah hu];show po (co rs O h) fun kvs hd he hg hm=>?_;show wpAny_notIn_of (x.key hy) hm hd.dictOf.mapOf (aS σ rs.tok (by rw[<-he,qr,Option.isSome_map] at hq;show hq))
theorem mX {d:Addr} {ep:Nat} {xs:List (AK×AV)} {x:AK} (h:σ d=some (.dict ep xs)) (hq:Q ((bl xs x).getD .none) σ):aa k (.fn "dict.get") [.ref d,x.av] σ Q X:=by
 show⟨fun A Up g s fv vv hA hH R O rs hf hv=>?_⟩;rw[dL hf];show aH (GI hv) fun a b hr2 ha hb=>?_;rw[hr2];rw[ah ha];show po (co rs O h) fun kvs hd he hg hm=>?_;show call_meetsIn F.slot_dict_get hd.dictOf.typeIs F.entry_dict_get (F.args_dict_get_2 _ _) (meets_dict_get (bS Ω.p Ω.w) d (x.key hb) hm) ⟨valueAt kvs,hd.dictOf.mapOf,σ,rs.tok,?_⟩;rw[<-he,qr] at hq;cases q:valueAt kvs x<;>rw[q] at hq<;>show hq
structure zJ (k:Nat) (a b c:AV) (σ:AS) (Q:AS->Prop) (X:cC):Prop where
 run:∀u v x,er u=a->er v=b->er x=c->MA k (setItem u v x) σ (fun _=>Q) X
theorem bM {d:Addr} {ep:Nat} {xs:List (AK×AV)} {x:AK} {v:AV} {Q:AS->Prop} (h:σ d=some (.dict ep xs)) (hz:xs.length<=1000000) (hq:∀ep',Q (σ.set d (.dict ep' (iH xs x v)))):zJ k (.ref d) x.av v σ Q X:=by
 show⟨fun u y z hu hy hz'=>⟨fun A Up g s hA hH R O rs=>?_⟩⟩;rw[ah hu];show po (co rs O h) fun kvs hd he hg hm=>?_;have hs:kvs.length=xs.length:=by rw[<-he,a9]
 show wpAny_setItem_pairs (x.key hy) hd.dictOf (fun h' hd' sb=>?_) (by rw[hs,mU];lia);show aw hd'.dictAt fun ep' hd'=>?_;show ae (ke hd' (vw kvs x z)) fun ob ho hof=>?_;rw[he,hz'] at hof;show(aS _ (rs.put hg sb.extBut ho hof) (hq ep'))
structure Je (σ:AS) (a:AV) (T:String):Prop where
 run:∀(Up:List Env) (g:Fz) (s:Shared) (u:Value),eD Ω.b Up g->RS Ω.p Ω.w g σ s->er u=a->s.TypeIs u T/\∀b,u= .ref b->∃ob,s.heap.get? b=some ob/\ob.dict=none
section
theorem jC {p:Addr} {xs:List AV} (h:σ p=some (.list xs)):Je σ (.ref p) "list":=⟨fun Up g s u O rs e=>by
 rw[ah e];show aH (aZ rs h) fun vs n hl he hg=>?_;show⟨(aS _ hl rfl),fun b q=>by cases q;show(aS _ hl rfl)⟩⟩
theorem Jf {p:Addr} {xs:List AV} (h:tu Ω σ p (.tup xs)):Je σ (.ref p) "tuple":=⟨fun Up g s u O rs e=>by
 rw[ah e];show bQ (cu rs O h) fun vs n hl he=>?_;show⟨(aS _ hl rfl),fun b q=>by cases q;show(aS _ hl rfl)⟩⟩
theorem Bu {p:Addr} {ep:Nat} {xs:List (AK×AV)} (h:σ p=some (.dict ep xs)):Je σ (.ref p) "dict":=⟨fun Up g s u O rs e=>by
 rw[ah e];show po (co rs O h) fun kvs hd he hg hm=>?_;show⟨hd.dictOf.typeIs,hd.dictOf.mapOf.noDict⟩⟩
theorem sp {b:LU}:Je σ (.bytes b) "bytes":=⟨fun Up g s u O rs e=>by
 show aw (cN e) fun t hr1=>?_;rw[hr1];show⟨typeIs_bytes s _ t,fun b q=>nomatch q⟩⟩
theorem EE {b:Str}:Je σ (.str b) "str":=⟨fun Up g s u O rs e=>by
 show aw (db e) fun t hr1=>?_;rw[hr1];show⟨rfl,fun b q=>nomatch q⟩⟩
end
structure xo (k:Nat) (a b:AV) (σ:AS) (Q:aG) (X:cC):Prop where
 run:∃T id,Je σ a T/\typeLookup (.type T) "__getitem__"=pure (some (.builtin id))/\cj k getItem a b σ Q X
section
theorem ak {p:Addr} {i:Nat} {v:AV} {xs:List AV} (h:σ p=some (.list xs)) (hi:xs[i]?=some v) (hz:i<1000000) (hq:Q v σ):xo k (.ref p) (.int i) σ Q X:=
 ⟨_,_,jC h,list_getitem_lookup,G4 h hi hz hq⟩
theorem aQ {p:Addr} {v:AV} {xs:List AV} (h:σ p=some (.list (xs++[v]))) (hq:Q v σ):xo k (.ref p) (.int (-1)) σ Q X:=
 ⟨_,_,jC h,list_getitem_lookup,zI (i:=1) h zd zs zs zd hq⟩
theorem f0 {p:Addr} {i:Nat} {v:AV} {xs:List AV} (h:tu Ω σ p (.tup xs)) (hi:xs[i]?=some v) (hz:i<1000000) (hq:Q v σ):xo k (.ref p) (.int i) σ Q X:=
 ⟨_,_,Jf h,F.slot_tuple_getitem.lookup,Jd h hi hz hq⟩
theorem a8 {d:Addr} {ep:Nat} {xs:List (AK×AV)} {x:AK} {v:AV} (h:σ d=some (.dict ep xs)) (hv:bl xs x=some v) (hq:Q v σ):xo k (.ref d) x.av σ Q X:=
 ⟨_,_,Bu h,slot_dict_getitem.lookup,G6 h hv hq⟩
theorem sq {b:LU} {i:Nat} {c:UInt8} (hi:b[i]?=some c) (hz:b.length<=100000000) (hq:Q (.int c.toNat) σ):xo k (.bytes b) (.int i) σ Q X:=
 ⟨_,_,sp,FB.slot_bytes_getitem.lookup,Ft hi hz hq⟩
section
variable {A:Around} {E:Value->Shared->Prop} {s:Shared}
set_option maxRecDepth 100000 in
theorem xp {expr:Bool} {Q:Value->Shared->Prop} (X:(KK Ω.w.params).In s.heap) (h:Q (.builtin "Exception.__init__") {s with toks:=s.toks+1}):wpAny (model Ω.p Ω.w) A (getAttr (.type "Exception") "__init__" expr) Q E s:=by
 have hstub:opaqueClassAbove (.type "Exception")=pure none:=by delta opaqueClassAbove;dsimp only;rw[show Manifest.isStub "Exception"=false from by decide+kernel];rfl
 have L0:Looks (model Ω.p Ω.w) s.heap (typeOf (.type "Exception")) (.type "type"):=Looks.of_pure (kitMeta_of (by decide+kernel));have LO:Looks (model Ω.p Ω.w) s.heap (opaqueClassAbove (.type "Exception")) none:=Looks.of_pure hstub;have hg:findIn (KK Ω.w.params) (.type "type") "__getattribute__"=some (some (.builtin "type.__getattribute__")):=type_tga;have e:findCls (KK Ω.w.params) (.type "Exception") (.type "type") "__init__"=some (.val (.builtin "Exception.__init__")):=zk;show cls_open X LO L0 hg (looks_hook X (r:=none) (by rfl)) (by change subIn (KK Ω.w.params) _ _=_;rfl) e ?_;change wpAny _ _ (ret _) _ _ _;show cS (handed_on (by rfl) h)
set_option maxRecDepth 100000 in
theorem uy {pl:Sem Bool} {Q:Value×List Value->Shared->Prop} (X:(KK Ω.w.params).In s.heap) (h:Q (.builtin "Exception.__init__",[]) {s with toks:=s.toks+1}):wpAny (model Ω.p Ω.w) A (getMethod (.type "Exception") "__init__" pl) Q E s:=by
 have L0:Looks (model Ω.p Ω.w) s.heap (typeOf (.type "Exception")) (.type "type"):=Looks.of_pure (kitMeta_of (by decide+kernel));have hg:findIn (KK Ω.w.params) (.type "type") "__getattribute__"=some (some (.builtin "type.__getattribute__")):=type_tga
 delta getMethod specialOf
 show aJ (aJ (L0.here ((looks_findIn X hg).here ?_)));dsimp only;rw[eM canon_tga];show aJ (dw (xp X h) (fun _ _ z=>cS z) fun _ _ z=>z)
end
structure kP (v:AV) (x:Str) (σ:AS) (Q:AV->List AV->Prop):Prop where
 run:(∃a C N m f,v= .ref a/\σ a=some (.inst C N)/\σ N=some (.ns m)/\iL (KK Ω.w.params) C x f=true/\lO m x=true/\Q (.ref f) [.ref a])\/
  (∃T id,Je σ v T/\PlainAttrs T/\Slot T x id/\typeOf (.builtin id)=pure (.type "method_descriptor")/\Q (.fn id) [v])\/
  (v= .typ "Exception"/\x="__init__"/\Q (.fn "Exception.__init__") [])
theorem ad {a C N:Addr} {m:List (Attr×AV)} {x:Str} {f:Addr} {Q:AV->List AV->Prop} (h:σ a=some (.inst C N)) (h':σ N=some (.ns m)) (ok:Dq (KK Ω.w.params) C x f=true) (hq:Q (.ref f) [.ref a]):kP (.ref a) x σ Q:=
 ⟨.inl ⟨a,C,N,m,f,rfl,h,h',(yD (m:=m) ok).1,(yD (m:=m) ok).2,hq⟩⟩
theorem vy {a C N:Addr} {m:List (Attr×AV)} {x:Str} {f:Addr} {Q:AV->List AV->Prop} (h:σ a=some (.inst C N)) (h':σ N=some (.ns m)) (ok:iL (KK Ω.w.params) C x f=true) (nf:lO m x=true) (hq:Q (.ref f) [.ref a]):kP (.ref a) x σ Q:=
 ⟨.inl ⟨a,C,N,m,f,rfl,h,h',ok,nf,hq⟩⟩
theorem ij {v:AV} {x:Str} {T id:String} {Q:AV->List AV->Prop} (h:Je σ v T) (p:PlainAttrs T) (sl:Slot T x id) (ty:typeOf (.builtin id)=pure (.type "method_descriptor")) (hq:Q (.fn id) [v]):kP v x σ Q:=
 ⟨.inr (.inl ⟨T,id,h,p,sl,ty,hq⟩)⟩
theorem oh {Q:AV->List AV->Prop} (hq:Q (.fn "Exception.__init__") []):kP (.typ "Exception") "__init__" σ Q:=⟨.inr (.inr ⟨rfl,rfl,hq⟩)⟩
theorem Fu {A:Around} {s:Shared} {p:Addr} {vs:Array Value} {n:Nat} {K:Int} {t:Tok} {z:Value} {Q:Unit->Shared->Prop} {E:Value->Shared->Prop} (hl:IsL s.heap p vs n) (h0:0<=K) (hfit:K<2^63) (hn:K<vs.size)
 (hQ:∀n',IsL (s.heap.update p (Obj.mapSeq (·.setIfInBounds K.toNat z))) p (vs.setIfInBounds K.toNat z) n'->Q () {s with heap:=s.heap.update p (Obj.mapSeq (·.setIfInBounds K.toNat z))}):
 wpAny (model Ω.p Ω.w) A (setItem (.ref p) (.int K t) z) Q E s:=by
 delta setItem
 try with_reducible show Ez ?_
 first | show aJ (cS ?_) | skip
 show aJ (wpAny_sequenceKey hl.isList.typeIs zd ?_);show aJ (wpAny_callSpecial?_slot (name:=Str.ofString "__setitem__") hl.isList.typeIs slot_list_setitem
  (wpAny_call_entry slot_list_setitem hl.isList.typeIs entry_list_setitem ?_ (args_list_setitem _ _ _)))
 change wpAny _ _ (Builtin.List.listSubscript? (.int K t)>>=_) _ _ s;show aJ (wpAny_listSubscript_int (fitsIndex_of h0 hfit) ?_);clear hfit;show aw (Int.eq_ofNat_of_zero_le h0) fun j hr1=>?_;subst hr1;have hj:j<vs.size:=zo;have hx':vs[j]?=some vs[j]:=Array.getElem?_eq_getElem hj;change wpAny _ _ ((seqItemAt p j>>=fun r=>pure (r.map (j, ·)))>>=_) _ _ s;show aJ (aJ (wpAny_seqItemAt hl rfl (cS ?_)));rw[hx'];change wpAny _ _ (setSeqItemAt p j z>>=_) _ _ s;show aJ (wpAny_setSeqItemAt hl rfl ?_)
 first
  | show aJ (cS (cS ⟨.none,rfl,cS (hQ _ (hl.update (·.setIfInBounds j z)))⟩))
  | show cS ⟨.none,rfl,cS (hQ _ (hl.update (·.setIfInBounds j z)))⟩
theorem lP {p:Addr} {i:Nat} {xs:List AV} {v:AV} {Q:AS->Prop} (h:σ p=some (.list xs)) (hi:i<xs.length) (hz:xs.length<=1000000) (hq:Q (σ.set p (.list (xs.set i v)))):zJ k (.ref p) (.int i) v σ Q X:=by
 show⟨fun u y z hu hy hz'=>⟨fun A Up g s hA hH R O rs=>?_⟩⟩;rw[ah hu];show aw (aI hy) fun t hr1=>?_;rw[hr1];show aH (aZ rs h) fun vs n hl he hg=>?_;have hs:=aj he;show Fu hl zo zo zo fun n' q=>(aS _ (rs.put hg (Heap.SameBut.update _ _ _).extBut q (dW (xs:=xs.set i v) (by simp [List.map_set,he,hz']))) hq)
structure qt (σ:AS) (v:AV) (Q:List AV->Prop):Prop where
 run:∃t vs,v= .ref t/\σ t=some (.tup vs)/\Q vs
theorem aD {t:Addr} {vs:List AV} {Q:List AV->Prop} (h:σ t=some (.tup vs)) (q:Q vs):qt σ (.ref t) Q:=⟨t,vs,rfl,h,q⟩
end
theorem Bv {A:Around} {E:Value->Shared->Prop} {s:Shared} {value slice:Expr} {o i:Value} {ops:List Value} {T id:String} {Q:Value->Shared->Prop} (hT:s.TypeIs o T) (hl:typeLookup (.type T) "__getitem__"=pure (some (.builtin id)))
 (h:wpAny (model Ω.p Ω.w) A (getItem o i) Q E s) (hs:subscripted slice false o i=operate ops (getItem o i)):wpAny (model Ω.p Ω.w) A (subscriptTail value slice o i) Q E s:=by
 delta subscriptTail
 show aJ ?_;rw[getitemInPython_of_ne hT.not_modules];show aJ (wpAny_specialOf hT hl ?_);have fin:wpAny (model Ω.p Ω.w) A (subscripted slice false o i) (fun r UD=>wpAny (model Ω.p Ω.w) A (letTemporaryGo value o r>>=fun _=>pure r) Q E UD) E s:=by
  rw[hs];show wpAny_operate' (dw h (fun r UD UG=>aJ (wpAny_letTemporaryGo (cS UG))) fun _ _ x=>x)
 first
  | show cS (aJ fin)
  | show aJ (cS (aJ fin))
  | show aJ fin
noncomputable abbrev TQ (k:Nat) (a:AV) (Q:aG) (X:cC):aG:=fun b σ=>xo k a b σ Q X
noncomputable abbrev TR (y:CE F) (k:Nat) (l:aO) (Q:aG) (X:cC):aG:=fun a σ=>y.tr k l σ (TQ k a Q X) X
noncomputable abbrev TS (k:Nat) (f:AV) (first:List AV) (Q:aG) (X:cC):List AV->AS->Prop:=fun vs σ=>aa k f (first++vs) σ Q X
noncomputable abbrev TT (xs:List (CE F)) (k:Nat) (l:aO) (σ:AS) (Q:aG) (X:cC):AV->List AV->Prop:=fun f first=>CE.argsTr xs k l σ (TS k f first Q X) X
noncomputable abbrev TU (x:Str) (xs:List (CE F)) (k:Nat) (l:aO) (Q:aG) (X:cC):aG:=fun v σ=>kP v x σ (TT xs k l σ Q X)
noncomputable abbrev TV (op:BoolOp) (f:Nat->aO->AS->aG->cC->Prop) (k:Nat) (l:aO) (a:AV) (Q:aG) (X:cC):gJ:=fun b σ=>match op with
 | .And=>Br b (f k l σ Q X) (Q a σ)
 | .Or=>Br b (Q a σ) (f k l σ Q X)
noncomputable abbrev TW (op:BoolOp) (f:Nat->aO->AS->aG->cC->Prop) (k:Nat) (l:aO) (Q:aG) (X:cC):aG:=fun a σ=>pq k a σ (TV op f k l a Q X) X
noncomputable abbrev kS (l:aO) (Q:ax):aG:=fun _ σ=>Q .next l σ
noncomputable abbrev TX (k:Nat) (l:aO) (a u:AV) (Q:ax) (X:cC):aG:=fun b σ=>zJ k a b u σ (kN l Q) X
noncomputable abbrev TY (i:CE F) (k:Nat) (l:aO) (u:AV) (Q:ax) (X:cC):aG:=fun a σ=>i.tr k l σ (TX k l a u Q X) X
noncomputable abbrev TZ (o i:CE F) (k:Nat) (l:aO) (Q:ax) (X:cC):aG:=fun u σ=>o.tr k l σ (TY i k l u Q X) X
namespace CE
variable (x y:CE F) (pos:Pos)
noncomputable def sub:CE F where
 e:= .Subscript x.e y.e pos
 tr:=fun k lc σ Q X=>x.tr k lc σ (TR y k lc Q X) X
 ok:=fun c k lc σ s Q X R S h=>Subscript_ (gH (x.ok c k lc σ s _ X R S h) fun u UB Uv Uz UE=>
  dw (y.ok c k lc Uv UB _ X R Uz UE) (fun v UC hp=>ae hp fun Uw UA J=>aH J.run fun T id h2 h3 h4=>
   Bv (h2.run _ _ _ _ UA.outer UA.rs.hide rfl).1 h3 ((h4.run u v rfl rfl).lift R UA) (Fm y _ _)) fun _ _ e=>e)
set_option maxRecDepth 100000 in
noncomputable def methd (x:Str) (o:CE F) (apos pos:Pos) (xs:List (CE F)):CE F where
 e:= .Call (.Attribute o.e x apos) (xs.map (·.e)) [] pos
 tr:=fun k lc σ Q X=>gd (Dl o.e&&(xs.drop 29).isEmpty&&(apos.endLine==pos.line)) (o.tr k lc σ (TU x xs k lc Q X) X)
 ok:=fun c k lc σ s Q X R S hg=>by
  show aL (gh hg) fun g h=>?_;rw[nH,nH] at g;have hn:xs.length<30:=by
   have:=List.drop_eq_nil_iff.mp (List.isEmpty_iff.mp g.1.2);lia
  have hline:=g.2;rw[arm_eval_Call,vq g.1.1];show aJ (gH (o.ok c k lc σ s _ X R S h) fun v UB Uv Uz M=>?_);show aJ (wpAny_standAt ?_);rw[eh];have hform:methodCallForm ((xs.map (·.e)).length+([]:List Keyword).length) (xs.map fun x=>(false,eval x.e c.env)) (backToKw pos (keywordEach [] c.env))=true:=by
   delta methodCallForm
   rw[show(backToKw pos (keywordEach [] c.env))=[] from rfl];simp [hn]
  have hpos:methodCallPos true o.e c.env apos pos=pure pos:=by delta methodCallPos;simp [hline]
  delta methodCall
  rw[hform];rcases M.run with ⟨a,C,N,m,f,e,h1,h2,h3,hf,h4⟩ | ⟨T,id,h1,h2,h3,h4,h5⟩ | ⟨h1,h2,h3⟩
  . rw[ah e];show aJ (Ez (Jb Uz h1 h2 h3 hf ?_));show aJ (LZ hpos ?_);show callWith_ok c k lc X R pos (.ref f) [.ref a] xs Uv UB Q Uz (zG h3) h4
  . show aL (h1.run _ _ _ v Uz.outer Uz.rs.hide rfl) fun hT hd=>?_;show aJ (Ez (getMethod_builtin hT h2 h3 h4 hd ?_));show aJ (LZ hpos ?_);show callWith_ok c k lc X R pos (.builtin id) [v] xs Uv UB Q Uz trivial h5
  . rw[eO h1,h2];have Xk:(KK Ω.w.params).In UB.heap:=fun a o q=>Uz.baseKeeps a o (c.world.inK a o q);show aJ (Ez (uy Xk ?_));show aJ (LZ hpos ?_);show callWith_ok c k lc X R pos (.builtin "Exception.__init__") [] xs Uv _ Q Uz.tok trivial h3
noncomputable def list (xs:List (CE F)):CE F where
 e:= .List (xs.map (·.e)) pos
 tr:=fun k lc σ Q X=>argsTr xs k lc σ (fun vs Uv=>vs.length<=1000000/\∀p,Uv p=Option.none->Q (.ref p) (Uv.set p (.list vs))) X
 ok:=fun c k lc σ s Q X R S h=>by
  rw[arm_eval_List,eh];show aJ (wpAny_standAt (aJ (dw (args_ok c k lc X R xs σ s _ S h) (fun vs UB hp=>j8 hp fun Uv Uz hl hq=>?_) fun _ _ e=>e)));show wpAny_newList (aS _ (Uz.after (Uz.rs.hide.alloc rfl (dW (vs:=vs.toArray) zs))) (hq _ (Uz.rs.free))) (by rw[a9] at hl;rw[mU];lia)
noncomputable def tup (kk:Nat) (xs:List (CE F)):CE F where
 e:= .Tuple (xs.map (·.e)) kk pos
 tr:=fun k lc σ Q X=>argsTr xs k lc σ (fun vs Uv=>vs.length<=1000000/\∀p,Uv p=Option.none->Q (.ref p) (Uv.set p (.tup vs))) X
 ok:=fun c k lc σ s Q X R S h=>by
  rw[arm_eval_Tuple,eh];show aJ (wpAny_standAt (aJ (dw (args_ok c k lc X R xs σ s _ S h) (fun vs UB hp=>j8 hp fun Uv Uz hl hq=>?_) fun _ _ e=>e)));show wpAny_newTuple (aS _ (Uz.after (Uz.rs.hide.alloc rfl (Dr (vs:=vs.toArray) zs))) (hq _ (Uz.rs.free))) (by rw[a9] at hl;rw[mU];lia)
noncomputable def dict0:CE F where
 e:= .Dict [] [] pos
 tr:=fun k lc σ Q X=>∀p ep,σ p=Option.none->Q (.ref p) (σ.set p (.dict ep []))
 ok:=fun c k lc σ s Q X R S h=>wpAny_Dict_empty (by
  show aw ((Heap.DictOf.new (knd:=bS Ω.p Ω.w) s.heap).dictAt) fun ep hd=>?_;show ae (ke hd (xs:=[]) rfl) fun ob ho hof=>?_;rw[zA _ rfl] at ho;cases ho;show(aS _ (S.after (S.rs.hide.alloc rfl hof)) (h _ ep S.rs.free)))
noncomputable def neg (n:Int) (kk:Nat) (pos pos':Pos):CE F where
 e:= .UnaryOp .USub (.Constant (.int n) kk pos') pos
 tr:=fun k lc σ Q X=>Q (.int (-n)) σ
 ok:=fun c k lc σ s Q X R S h=>wpAny_UnaryOp (wpAny_Constant_int (neg_int (aS σ S.tok h)))
noncomputable def not:CE F where
 e:= .UnaryOp .Not x.e pos
 tr:=fun k lc σ Q X=>x.tr k lc σ (fun a Uv=>pq k a Uv (fun b Uw=>Q (.bool (!b)) Uw) X) X
 ok:=fun c k lc σ s Q X R S h=>wpAny_UnaryOp (gH (x.ok c k lc σ s _ X R S h) fun u UB Uv Uz UE=>
  not_of (dw (fM R Uz rfl UE) (fun b UC z=>z) fun _ _ e=>e))
noncomputable def allvTr (op:BoolOp):List (CE F)->Nat->aO->AS->aG->cC->Prop
 | [],_,_,σ,Q,_=>False
 | [x],k,lc,σ,Q,X=>x.tr k lc σ Q X
 | x::y::r,k,lc,σ,Q,X=>x.tr k lc σ (TW op (allvTr op (y::r)) k lc Q X) X
theorem allv_ok {op:BoolOp} (c:Cx F) (k:Nat) (lc:aO) (Q:aG) (X:cC) (R:da c.A k) (pos:Pos):∀(xs:List (CE F)) (σ:AS) (s:Shared),St c lc σ s->allvTr op xs k lc σ Q X->
 wpAny (model Ω.p Ω.w) c.A (boolOp pos op (xs.map fun x=>eval x.e c.env)) (EP c lc Q) (aM Ω.b c.all X c.g) s
 | [],σ,s,S,h=>h.elim
 | [x],σ,s,S,h=>by cases op<;>show x.ok c k lc σ s Q X R S h
 | x::y::r,σ,s,S,h=>by
  have nx:=fun Uw UC UA UF=>allv_ok (op:=op) c k lc Q X R pos (y::r) Uw UC UA UF;change wpAny (model Ω.p Ω.w) c.A (do
   let v<-eval x.e c.env
   standAt pos
   let t<-holding [v] (truthy v)
   match op,t with
   | .And,false | .Or,true=>pure v
   | _,_=>boolOp pos op ((y::r).map fun x=>eval x.e c.env)) _ _ s
  show aJ (gH (x.ok c k lc σ s _ X R S h) fun v UB Uv Uz UE=>aJ (wpAny_standAt (aJ (Ez (gH (fM R Uz rfl UE) fun t UC Uw UA UF=>?_)))));cases op<;>cases t
  . show cS (aS Uw UA (UF.f rfl))
  . show nx Uw UC UA (UF.t rfl)
  . show nx Uw UC UA (UF.f rfl)
  . show cS (aS Uw UA (UF.t rfl))
noncomputable def allv (op:BoolOp) (xs:List (CE F)) (pos:Pos):CE F where
 e:= .BoolOp op (xs.map (·.e)) pos
 tr:=allvTr op xs
 ok:=fun c k lc σ s Q X R S h=>by
  change wpAny (model Ω.p Ω.w) c.A (boolOp pos op (evalEach (xs.map (·.e)) c.env)) _ _ s;rw[Bq];show allv_ok c k lc Q X R pos xs σ s S h
noncomputable def chain (o p:CmpOp) (m y:CE F):CE F where
 e:= .Compare x.e [o,p] [m.e,y.e] pos
 tr:=fun k lc σ Q X=>x.tr k lc σ (fun a Uv=>m.tr k lc Uv (fun b Uw=>Fp k o a b Uw (fun t Ux=>pq k t Ux (fun z Uy=>Br z (y.tr k lc Uy (fun d σ₅=>Fp k p b d σ₅ Q X) X) (Q t Uy)) X) X) X) X
 ok:=fun c k lc σ s Q X R S h=>Compare_chain (gH (x.ok c k lc σ s _ X R S h) fun u UB Uv Uz UE=>chain_link (gH (m.ok c k lc Uv UB _ X R Uz UE) fun v UC Uw UA UF=>
  gH (mW R UA rfl rfl UF) fun t UD Ux S₃ UG=>gH (fM R S₃ rfl UG) fun z s₄ Uy S₄ h₄=>by
   cases z
   . show(aS Uy S₄ (h₄.f rfl))
   . show chain_last (gH (y.ok c k lc Uy s₄ _ X R S₄ (h₄.t rfl)) fun d s₅ σ₅ S₅ h₅=>mW R S₅ rfl rfl h₅))) (gi p y)
end CE
noncomputable def CT.chain (x:CE F) (pos:Pos) (o p:CmpOp) (m y:CE F):CT F where
 e:= .Compare x.e [o,p] [m.e,y.e] pos
 tr:=fun k lc σ Q X=>x.tr k lc σ (fun a Uv=>m.tr k lc Uv (fun b Uw=>Fp k o a b Uw (fun t Ux=>pq k t Ux (fun z Uy=>Br z (y.tr k lc Uy (fun d σ₅=>Fp k p b d σ₅ (fun t' σ₆=>pq k t' σ₆ Q X) X) X) (Q false Uy)) X) X) X) X
 ok:=fun c k lc σ s Q X R S h=>isTrue_chain (gH (x.ok c k lc σ s _ X R S h) fun u UB Uv Uz UE=>test_link (gH (m.ok c k lc Uv UB _ X R Uz UE) fun v UC Uw UA UF=>
  gH (mW R UA rfl rfl UF) fun t UD Ux S₃ UG=>gH (fM R S₃ rfl UG) fun z s₄ Uy S₄ h₄=>by
   cases z
   . show(aS Uy S₄ (h₄.f rfl))
   . show test_last (gH (y.ok c k lc Uy s₄ _ X R S₄ (h₄.t rfl)) fun d s₅ σ₅ S₅ h₅=>gH (mW R S₅ rfl rfl h₅) fun t' s₆ σ₆ S₆ h₆=>fM R S₆ rfl h₆))) (gi p y)
namespace CS
noncomputable def expr (x:CE F) (pos:Pos):CS F where
 b:= .Expr x.e pos
 tr:=fun k l σ Q X=>gd (Dm x.e) (x.tr k l σ (kS l Q) X)
 ok:=fun c k l σ s Q X R S h=>wpAny_Expr_any (gH (x.ok c k l σ s _ X R S (gh h).2) fun v UB Uv Uz UE=>(xh _ l Uv rfl Uz UE)) (G0 F.fn rfl) (vr (gh h).1 _ _ _)
noncomputable def setitem (v o i:CE F) (pos' pos:Pos):CS F where
 b:= .Assign [.Subscript o.e i.e pos'] v.e pos
 tr:=fun k l σ Q X=>v.tr k l σ (TZ o i k l Q X) X
 ok:=fun c k l σ s Q X R S h=>wpAny_Assign_Subscript (gH (v.ok c k l σ s _ X R S h) fun u UB Uv Uz UE=>gH (o.ok c k l Uv UB _ X R Uz UE) fun a UC Uw UA UF=>
  gH (i.ok c k l Uw UC _ X R UA UF) fun b UD Ux S₃ UG=>gH ((UG.run a b u rfl rfl rfl).lift R S₃) fun _ s₄ Uy S₄ h₄=>(xh _ l Uy rfl S₄ h₄)) (Fo ..)
end CS
structure MG (alive:AS->Prop) (xs:List AV) (It:Addr->Nat->Heap->Prop):Prop where
 at_:∀I i h h',It I i h->(∀o,h.get? I=some o->h'.get? I=some o)->It I i h'
 live:∀I i h,It I i h->∃o,h.get? I=some o
 go:∀(A:Around) (target:Expr) (v:Value) (I:Addr) (i:Nat) (s:Shared) (Q:Unit->Shared->Prop) (E:Value->Shared->Prop),It I i s.heap->Q () s->wpAny (model Ω.p Ω.w) A (letOwnedTupleGo target (.ref I) v) Q E s
 self:∀(A:Around) (I:Addr) (i:Nat) (s:Shared) (Q:Value->Shared->Prop) (E:Value->Shared->Prop),It I i s.heap->Q (.ref I) s->wpAny (model Ω.p Ω.w) A (pyIter (.ref I)) Q E s
 next:∀(A:Around) (Up:List Env) (g:Fz) (I:Addr) (i:Nat) (s:Shared) (σ:AS) (x:AV) (Q:Option Value->Shared->Prop) (E:Value->Shared->Prop),A.handled=none->eD Ω.b Up g->RS Ω.p Ω.w g σ s->σ I=none->alive σ->It I i s.heap->xs[i]?=some x->
  (∀v h' tk,er v=x->It I (i+1) h'->Heap.ExtBut I s.heap h'->Q (some v) {s with heap:=h',toks:=tk})->wpAny (model Ω.p Ω.w) A (pyNext (.ref I)) Q E s
 done:∀(A:Around) (Up:List Env) (g:Fz) (I:Addr) (s:Shared) (σ:AS) (Q:Option Value->Shared->Prop) (E:Value->Shared->Prop),A.handled=none->eD Ω.b Up g->RS Ω.p Ω.w g σ s->σ I=none->alive σ->It I xs.length s.heap->
  (∀h' tk,Heap.ExtBut I s.heap h'->Q none {s with heap:=h',toks:=tk})->wpAny (model Ω.p Ω.w) A (pyNext (.ref I)) Q E s
structure gv (v:AV) (alive:AS->Prop) (xs:List AV):Prop where
 run:∃It,MG alive xs It/\∀(A:Around) (Up:List Env) (g:Fz) (s:Shared) (σ:AS) (u:Value) (Q:Value->Shared->Prop) (E:Value->Shared->Prop),A.handled=none->eD Ω.b Up g->RS Ω.p Ω.w g σ s->alive σ->er u=v->
  (∀h' tk,It s.heap.objs.size 0 h'->(∀b o,s.heap.get? b=some o->h'.get? b=some o)->Q (.ref s.heap.objs.size) {s with heap:=h',toks:=tk})->wpAny (model Ω.p Ω.w) A (pyIter u) Q E s
theorem jD {A:Around} {target:Expr} {v:Value} {I:Addr} {s:Shared} {Q:Unit->Shared->Prop} {E:Value->Shared->Prop} {o:Obj} {T:String} (ho:s.heap.get? I=some o) (hc:o.cls= .type T)
 (hT:["enumerate","zip","dict_itemiterator","dict_reverseitemiterator","odict_iterator","itertools.zip_longest","itertools.pairwise"].contains T=false) (h:Q () s):wpAny (model Ω.p Ω.w) A (letOwnedTupleGo target (.ref I) v) Q E s:=by
 have z:∀es k p,wpAny (model Ω.p Ω.w) A (letOwnedTupleGo (.Tuple es k p) (.ref I) v) Q E s:=fun es k p=>by
  cases v with
  | ref a=>
   change wpAny _ _ (load I>>=_) _ _ _;show aJ (wpAny_load ho ?_);rw[hc];cases o.data with
   | fields vs=>simp only [hT,Bool.false_and];show cS h
   | _=>show cS h
  | _=>show cS h
 cases target<;>first | show cS h | show z [] 0 ⟨0,0,0,0⟩
theorem tB {I:Addr} {h h':Heap} (e:∀b o,b∉[I]->h.get? b=some o->h'.get? b=some o):Heap.ExtBut I h h':=fun b o q=>e b o (by simpa using q)
theorem cw {p:Addr} {xs:List AV}:gv (.ref p) (fun σ=>σ p=some (.list xs)) xs:=by
 show⟨fun I i h=>h.IsListIter I p i,⟨fun I i h h' x e=>x.at e,fun I i h ⟨o,ho,_⟩=>⟨o,ho⟩,fun A target v I i s Q E ⟨o,ho,hc,_⟩ q=>jD ho hc zd q,fun A I i s Q E it q=>wpAny_pyIter_listiter it q,?_,?_⟩,?_⟩
 . intro A Up g I i s σ x Q E hH O rs hI al it hx hQ;show aH (aZ rs al) fun vs n hl he hg=>?_;show ae (bK he hx) fun y hy e=>?_;show wpAny_pyNext_list_item it hl.isList hy fun h' it' sb=>hQ y h' s.toks e it' sb.extBut
 . intro A Up g I s σ Q E hH O rs hI al it hQ;show aH (aZ rs al) fun vs n hl he hg=>?_;show wpAny_pyNext_list_end hH it hl.isList (by rw[Array.getElem?_eq_none_iff];have:=aj he;lia) fun h' eb=>hQ h' s.toks eb
 . intro A Up g s σ u Q E hH O rs al e hQ;rw[ah e];show aH (aZ rs al) fun vs n hl he hg=>?_;show wpAny_pyIter_list hl.isList (hQ _ s.toks ⟨_,zA _ rfl,rfl,rfl⟩ fun b o q=>qo _ q)
theorem G7 {p:Addr} {xs:List AV}:gv (.ref p) (fun σ=>tu Ω σ p (.tup xs)) xs:=by
 show⟨fun I i h=>IsTupIter h I p i,⟨fun I i h h' ⟨o,ho,r⟩ e=>⟨o,e o ho,r⟩,fun I i h ⟨o,ho,_⟩=>⟨o,ho⟩,fun A target v I i s Q E ⟨o,ho,hc,_⟩ q=>jD ho hc zd q,fun A I i s Q E it q=>wpAny_pyIter_tupleiter it q,?_,?_⟩,?_⟩
 . intro A Up g I i s σ x Q E hH O rs hI al it hx hQ;show bQ (cu rs O al) fun vs n hl he=>?_;show ae (bK he hx) fun y hy e=>?_;show next_tuple_item it ⟨_,hl,rfl,_,rfl⟩ hy fun h' it' sb=>hQ y h' s.toks e it' sb.extBut
 . intro A Up g I s σ Q E hH O rs hI al it hQ;show bQ (cu rs O al) fun vs n hl he=>?_;show next_tuple_end hH it ⟨_,hl,rfl,_,rfl⟩ (by rw[Array.getElem?_eq_none_iff];have:=aj he;lia) fun h' eb=>hQ h' s.toks eb
 . intro A Up g s σ u Q E hH O rs al e hQ;rw[ah e];show bQ (cu rs O al) fun vs n hl he=>?_;show iter_tuple ⟨_,hl,rfl,_,rfl⟩ (hQ _ s.toks ⟨_,zA _ rfl,rfl,rfl⟩ fun b o q=>qo _ q)
theorem cQ {d:Addr} {ep:Nat} {xs:List (AK×AV)}:gv (.ref d) (fun σ=>σ d=some (.dict ep xs)) (xs.map fun p=>p.1.av):=by
 show⟨fun I i h=>h.IsKeyIter I d i xs.length ep,⟨fun I i h h' ⟨o,ho,r⟩ e=>⟨o,e o ho,r⟩,fun I i h ⟨o,ho,_⟩=>⟨o,ho⟩,fun A target v I i s Q E ⟨o,ho,hc,_⟩ q=>jD ho hc zd q,fun A I i s Q E it q=>wpAny_pyIter_keyiter it q,?_,?_⟩,?_⟩
 . intro A Up g I i s σ x Q E hH O rs hI al it hx hQ;show po (co rs O al) fun kvs hd he hg hm=>?_;have hs:kvs.length=xs.length:=by rw[<-he,a9]
   rw[<-hs] at it;rw[<-he,bq,nG] at hx;cases q:kvs[i]? with
   | none=>rw[q] at hx;cases hx
   | some p=>
    rw[q] at hx;obtain⟨pk,pv⟩:=p;show wpAny_pyNext_dict_item it hd q fun key h' hk it' sb=>hQ key h' s.toks ?_ (by rw[<-hs];show it') sb.extBut;rw[AK.is_er hk];show ql hx
 . intro A Up g I s σ Q E hH O rs hI al it hQ;show po (co rs O al) fun kvs hd he hg hm=>?_;have hs:kvs.length=xs.length:=by rw[<-he,a9]
   rw[a9,<-hs] at it;show wpAny_pyNext_dict_end hH it hd zs fun h' eb=>hQ h' s.toks eb
 . intro A Up g s σ u Q E hH O rs al e hQ;rw[ah e];show po (co rs O al) fun kvs hd he hg hm=>?_;have hs:kvs.length=xs.length:=by rw[<-he,a9]
   show wpAny_pyIter_dict hm hd (hQ _ s.toks (aS _ (zA _ rfl) (by simp [hs])) fun b o q=>qo _ q)
noncomputable def xq (a b c:Int):Nat:=(Builtin.Range.rangeSize a b c).toNat
noncomputable def vz (a b c:Int):List AV:=(List.range (xq a b c)).map fun(i:Nat)=> .int (a+(i:Int)*c)
theorem dM {p:Addr} {a b c:Int} (hs:Builtin.Range.small a b c=true) (h0:0<=Builtin.Range.rangeSize a b c):gv (.ref p) (fun σ=>σ p=some (.rng a b c)) (vz a b c):=by
 have hn:((xq a b c:Nat):Int)=Builtin.Range.rangeSize a b c:=Int.toNat_of_nonneg h0;show⟨fun I i h=>IsRangeIter h I (a+(i:Nat)*c) ((xq a b c:Int)-(i:Nat)) c,⟨fun I i h h' x e=>e _ x,fun I i h x=>⟨_,x⟩,fun A target v I i s Q E x q=>jD x rfl zd q,fun A I i s Q E it q=>wpAny_pyIter_rangeiter it q,?_,?_⟩,?_⟩
 . intro A Up g I i s σ x Q E hH O rs hI al it hx hQ;have W:=Walks.range (prog:=Ω.p) (w:=Ω.w) hH I a c (xq a b c);have hi:i<xq a b c:=by
    have:=(LX.mp hx).1;simpa [vz] using this
   show W.item i s Q E hi it fun v h' tk ⟨t,e⟩ it' eb=>hQ v h' tk ?_ it' (tB eb);subst e;simp [vz,hi] at hx;rw[<-hx];rfl
 . intro A Up g I s σ Q E hH O rs hI al it hQ;have W:=Walks.range (prog:=Ω.p) (w:=Ω.w) hH I a c (xq a b c);show W.done s Q E (by simpa [vz] using it) fun h' tk eb=>hQ h' tk (tB eb)
 . intro A Up g s σ u Q E hH O rs al e hQ;rw[ah e];obtain⟨hg,ob,ho,t,u',v,rfl⟩:=rs.own p _ al;show wpAny_pyIter_range ho hs (hQ _ s.toks ?_ fun b o q=>qo _ q);have e1:a+((0:Nat):Int)*c=a:=zs;have e2:(xq a b c:Int)-((0:Nat):Int)=Builtin.Range.rangeSize a b c:=by rw[hn];simp
   change IsRangeIter _ _ (a+((0:Nat):Int)*c) ((xq a b c:Int)-((0:Nat):Int)) c;rw[e1,e2];show zA _ rfl
theorem kg {b:LU}:gv (.bytes b) (fun _=>True) (b.map fun c=> .int c.toNat):=by
 show⟨fun I i h=>∃t,KBw.IsBytesIter h I b.toArray t i,⟨fun I i h h' ⟨t,o,ho,r⟩ e=>⟨t,o,e o ho,r⟩,fun I i h ⟨t,o,ho,_⟩=>⟨o,ho⟩,fun A target v I i s Q E ⟨t,o,ho,hc,_⟩ q=>jD ho hc zd q,fun A I i s Q E ⟨t,it⟩ q=>KBw.pyIter_self it q,?_,?_⟩,?_⟩
 . intro A Up g I i s σ x Q E hH O rs hI al ⟨t,it⟩ hx hQ;rw[nG] at hx;cases q:b[i]? with
   | none=>rw[q] at hx;cases hx
   | some c=>
    rw[q] at hx;show KBw.next_item it (c:=c) (by simpa using q) fun h' it' sb=>hQ _ h' _ (by rw[<-ql hx];rfl) ⟨t,it'⟩ sb.extBut
 . intro A Up g I s σ Q E hH O rs hI al ⟨t,it⟩ hQ;show KBw.next_end hH it zs fun h' eb=>hQ h' s.toks eb
 . intro A Up g s σ u Q E hH O rs al e hQ;show aw (cN e) fun t hr1=>?_;rw[hr1];show KBw.pyIter_bytes (hQ _ s.toks ⟨t,_,zA _ rfl,rfl,rfl⟩ fun b o q=>qo _ q)
noncomputable def Cx.mine (c:Cx F) (b:Addr):Prop:=b=c.L\/∃x,c.cells.lookup x=some b
open Classical in
noncomputable def yF (c:Cx F) (σ:AS) (s:Shared):Fz:=⟨fun b=>if c.mine b then none else(Mine.hide σ s).f b,c.g.os⟩
section
variable {c:Cx F} {l:aO} {s s':Shared}
theorem kh {b:Addr} (e:c.mine b):(yF c σ s).f b=none:=eM e
theorem mY {b:Addr} (e:¬c.mine b):(yF c σ s).f b=(Mine.hide σ s).f b:=dr e
theorem Jg (hc:F.comp=false) {b:Addr} {o:Obj} (e:c.g.f b=some o):¬c.mine b:=by
 rintro (rfl | ⟨x,hx⟩)
 . rw[c.fresh] at e;cases e
 . rw[c.cellg hc x b hx] at e;cases e
theorem St.keepH (S:St c l σ s) (hc:F.comp=false) {b:Addr} {o:Obj} (e:c.g.f b=some o):(yF c σ s).f b=some o:=by rw[mY (Jg hc e)];show S.keepG e
noncomputable def Cx.hold (c:Cx F) (S:St c l σ s) (hc:F.comp=false):Cx F:=
 {c with
  g:=yF c σ s
  keeps:=fun b o e=>S.keepH hc (c.keeps b o e)
  stack:=fun env he=>by
   obtain⟨h1,Lf,h2,h3,h4⟩:=c.stack env he;rcases h4 with rfl | ⟨o,h4,h5⟩
   . show⟨h1,c.L,h2,h3,.inl rfl⟩
   . show⟨h1,Lf,h2,h3,.inr ⟨o,S.keepH hc h4,h5⟩⟩
  mods:=let ⟨o,e⟩:=c.mods;⟨o,S.keepH hc e⟩
  fresh:=kh (.inl rfl)
  cellg:=fun _ x ca hm=>kh (.inr ⟨x,hm⟩)}
theorem RS.held (r:RS Ω.p Ω.w c.g σ s):RS Ω.p Ω.w (yF c σ s) σ s:=
 ⟨fun b o e=>by
  by_cases q:c.mine b
  . rw[kh q] at e;cases e
  . rw[mY q] at e;show r.hide.keep b o e,fun a o e=>⟨by
  by_cases q:c.mine a
  . show kh q
  . rw[mY q];show(r.hide.own a o e).1,(r.own a o e).2⟩,r.calm⟩
theorem St.toHold (S:St c l σ s) (hc:F.comp=false):St (c.hold S hc) l σ s:=⟨S.ns,S.len,S.rs.held,S.no,S.noc⟩
theorem St.ofHold {l':aO} {UH:AS} (S:St c l σ s) (hc:F.comp=false) (S':St (c.hold S hc) l' UH s'):St c l' UH s':=
 ⟨S'.ns,S'.len,⟨fun b o e=>S'.rs.keep b o (S.keepH hc e),fun a o e=>⟨by
  cases q:c.g.f a with
  | none=>rfl
  | some o'=>show absurd ((S'.rs.own a o e).1.symm.trans (S.keepH hc q)) nofun,(S'.rs.own a o e).2⟩,S'.rs.calm⟩,S'.no,S'.noc⟩
theorem St.held {l':aO} {UH:AS} (S:St c l σ s) (hc:F.comp=false) (S':St (c.hold S hc) l' UH s') {b:Addr} {o:Obj} (hb:s.heap.get? b=some o) (hσ:σ b=none) (hm:¬c.mine b):s'.heap.get? b=some o/\UH b=none:=by
 have e:(yF c σ s).f b=some o:=by rw[mY hm,bH hσ];show hb
 show⟨S'.rs.keep b o e,?_⟩;cases q:UH b with
 | none=>rfl
 | some o'=>show absurd ((S'.rs.own b o' q).1.symm.trans e) nofun
theorem St.but {I:Addr} (S:St c l σ s) (hm:¬c.mine I) (hσ:σ I=none) (hg:c.g.f I=none) (e:Heap.ExtBut I s.heap s'.heap) (q:vn s s':=by show⟨rfl,rfl⟩):St c l σ s':=by
 have kc:∀y ca,c.cells.lookup y=some ca->∀o,s.heap.get? ca=some o->s'.heap.get? ca=some o:=fun y ca hy o ho=>e ca o (fun z=>hm (.inr ⟨y,z▸hy⟩)) ho;show ae S.ns fun m hn hl=>?_;show⟨⟨m,hn.extBut e (fun z=>hm (.inl z.symm)),fun i x kd h1 h2=>(hl i x kd h1 h2).keeps kc⟩,S.len,S.rs.but hg hσ e q,S.no,fun x ca hx=>⟨(S.noc x ca hx).1,let ⟨o,ho⟩:=(S.noc x ca hx).2;⟨o,kc x ca hx o ho⟩⟩⟩
theorem St.grown (S:St c l σ s) (e:∀b o,s.heap.get? b=some o->s'.heap.get? b=some o) (q:vn s s':=by show⟨rfl,rfl⟩):St c l σ s':=by
 show ae S.ns fun m hn hl=>?_;show⟨⟨m,hn.at' fun o ho=>e _ o ho,fun i x kd h1 h2=>(hl i x kd h1 h2).keeps fun _ _ _ o ho=>e _ o ho⟩,S.len,S.rs.ext e q,S.no,fun x ca hx=>⟨(S.noc x ca hx).1,let ⟨o,ho⟩:=(S.noc x ca hx).2;⟨o,e _ o ho⟩⟩⟩
theorem St.freshMine (S:St c l σ s) {b:Addr} (e:s.heap.get? b=none):¬c.mine b:=by
 rintro (rfl | ⟨x,hx⟩)
 . obtain⟨o,ho,_⟩:=S.live;rw[e] at ho;cases ho
 . obtain⟨o,ho⟩:=(S.noc x b hx).2;rw[e] at ho;cases ho
end
structure eF (F:Fn) where
 e:Expr
 tr:aO->AS->AV->(aO->Prop)->Prop
 ok:∀(c:Cx F) (l:aO) (σ:AS) (s:Shared) (v:Value) (Q:aO->Prop) (E:Value->Shared->Prop),St c l σ s->tr l σ (er v) Q->wpAny (model Ω.p Ω.w) c.A (assign e c.env v) (fun _ s'=>∃l',St c l' σ s'/\Q l') E s
noncomputable def eF.nameP (i:Nat) (x:Str) (pos:Pos) (hx:F.names[i]?=some x) (hc:F.comp=false\/F.kinds[i]?=some .local):eF F where
 e:= .Name x pos
 tr:=fun l σ v Q=>Q (l.set i (some v))
 ok:=fun c l σ s v Q E S h=>wpAny_assign_Name (CS.store hx hc S fun s' S'=>(aS _ S' h))
noncomputable def eF.name (i:Nat) (pos:Pos):eF F where
 e:= .Name (vp F i) pos
 tr:=fun l σ v Q=>gd (qp F i) (Q (l.set i (some v)))
 ok:=fun c l σ s v Q E S h=>wpAny_assign_Name (CS.store (zB (gh h).1) (zC (gh h).1) S fun s' S'=>(aS _ S' ((gh h).2)))
noncomputable def vA:aO->List Nat->List AV->aO
 | l,i::is,v::vs=>vA (l.set i (some v)) is vs
 | l,_,_=>l
theorem qu {c:Cx F} {E:Value->Shared->Prop}:∀(ns:List (Nat×Str×Pos)) (hx:∀n∈ns,F.names[n.1]?=some n.2.1/\(F.comp=false\/F.kinds[n.1]?=some .local)) (l:aO) (σ:AS) (s:Shared) (vs:List Value),St c l σ s->vs.length=ns.length->
 wpAny (model Ω.p Ω.w) c.A (assignInOrder (ns.map fun n=>assign (.Name n.2.1 n.2.2) c.env) vs) (fun _ s'=>St c (vA l (ns.map (·.1)) (vs.map er)) σ s') E s
 | [],hx,l,σ,s,vs,S,hl=>by
  cases vs with
  | nil=>show assignInOrder_nil S
  | cons _ _=>cases hl
 | n::ns,hx,l,σ,s,vs,S,hl=>by
  cases vs with
  | nil=>cases hl
  | cons v vs=>
   show aL (hx n bJ) fun h1 h2=>?_;show assignInOrder_cons (wpAny_assign_Name (CS.store h1 h2 S fun s' S'=>qu ns (fun m hm=>hx m (du _ hm)) _ σ s' vs S' (Nat.succ.inj hl)))
theorem vB {c:Cx F} {E:Value->Shared->Prop}:∀(ns:List (Nat×Str×Pos)) (hx:∀n∈ns,F.names[n.1]?=some n.2.1/\(F.comp=false\/F.kinds[n.1]?=some .local)) (l:aO) (σ:AS) (s:Shared) (vs:List Value),St c l σ s->vs.length=ns.length->
 wpAny (model Ω.p Ω.w) c.A (assignInOrder (ns.map ((fun n=>bindName c.env n)∘fun n=>n.2.1)) vs) (fun _ s'=>St c (vA l (ns.map (·.1)) (vs.map er)) σ s') E s
 | [],hx,l,σ,s,vs,S,hl=>by
  cases vs with
  | nil=>show assignInOrder_nil S
  | cons _ _=>cases hl
 | n::ns,hx,l,σ,s,vs,S,hl=>by
  cases vs with
  | nil=>cases hl
  | cons v vs=>
   show aL (hx n bJ) fun h1 h2=>?_;show assignInOrder_cons (wpAny_bindName (CS.store h1 h2 S fun s' S'=>vB ns (fun m hm=>hx m (du _ hm)) _ σ s' vs S' (Nat.succ.inj hl)))
theorem yG {c:Cx F} {E:Value->Shared->Prop} {n:Nat} {l:aO} {σ:AS} {s:Shared} {v:Value} {P:List AV->Prop} {Q:List Value->Shared->Prop} (S:St c l σ s) (J:qt σ (er v) fun vs=>vs.length=n/\P vs)
 (h:∀vs s',St c l σ s'->vs.length=n->P (vs.map er)->Q vs s'):wpAny (model Ω.p Ω.w) c.A (unpackItems v n none) Q E s:=by
 show I0 J.run fun t vs e ht hl hp=>?_;rw[ah e];show bQ (cu S.rs.hide S.outer (.inl ht)) fun ws m hT he=>?_;have hs:=aj he;have hn:n=ws.size:=zo;subst hn;show unpackItems_tuple c.handled ⟨_,hT,rfl,_,rfl⟩ fun h' eb=>h _ _ ?_ zs (by rw[he];show hp);have fr:=a7 s.heap;show S.but (S.freshMine fr) (S.rs.free_of fr) (S.rs.none_of fr) eb
noncomputable abbrev Nq (F:Fn) (n:Nat×Pos):Nat×Str×Pos:=(n.1,vp F n.1,n.2)
theorem vC (env:Env):∀ns:List (Nat×Str×Pos),assignEach (ns.map fun n=>Expr.Name n.2.1 n.2.2) env=ns.map fun n=>(false,assign (.Name n.2.1 n.2.2) env)
 | []=>rfl
 | n::r=>by
  change(false,assign (.Name n.2.1 n.2.2) env)::assignEach (r.map _) env=_;rw[vC env r];rfl
theorem Jh {ns:List (Nat×Pos)} (h:(ns.all fun n=>qp F n.1)=true):∀n∈ns.map (Nq F),F.names[n.1]?=some n.2.1/\(F.comp=false\/F.kinds[n.1]?=some .local):=by
 intro n hn;show ae (bp.mp hn) fun m hm e=>?_;subst e;have q:=Di.mp h m hm;show⟨zB q,zC q⟩
theorem Ji (ns:List (Nat×Pos)):(ns.map (Nq F)).map (·.1)=ns.map (·.1):=by
 rw[bq];rfl
noncomputable def eF.tup (ns:List (Nat×Pos)) (kk:Nat) (pos:Pos):eF F where
 e:= .Tuple ((ns.map (Nq F)).map fun n=>Expr.Name n.2.1 n.2.2) kk pos
 tr:=fun l σ v Q=>gd (ns.all fun n=>qp F n.1) (qt σ v fun vs=>vs.length=ns.length/\Q (vA l (ns.map (·.1)) vs))
 ok:=fun c l σ s v Q E S hg=>by
  show aL (gh hg) fun g h=>?_;have hx:=Jh g;rw[assign_Tuple,vC];show aJ (wpAny_standAt ?_);unfold unpack;show aJ (Ez ?_);have h1:((ns.map (Nq F)).map fun n=>(false,assign (.Name n.2.1 n.2.2) c.env)).findIdx? (·.1)=none:=by
   rw[List.findIdx?_eq_none_iff];intro x hx;show ae (bp.mp hx) fun n _ hr2=>?_;subst hr2;rfl
  rw[h1,a9];show yG (n:=(ns.map (Nq F)).length) S (by rw[a9];show h) fun vs s' S' hl hp=>?_;rw[bq];show dw (qu (ns.map (Nq F)) hx l σ s' vs S' hl) (fun _ s'' S''=>(aS _ S'' ?_)) fun _ _ e=>e;rw[Ji];show hp
noncomputable abbrev T0 (σ:AS) (Q:ax):aO->Prop:=fun l=>Q .next l σ
noncomputable abbrev Te (t:eF F) (l:aO) (Q:ax):aG:=fun u σ=>t.tr l σ u (T0 σ Q)
noncomputable def CS.unpackP (v:CE F) (t:eF F) (pos:Pos) (ht:∃elts k tpos,t.e= .Tuple elts k tpos) (hw:∀c:Cx F,swappedStores [t.e] v.e c.env=pure none):CS F where
 b:= .Assign [t.e] v.e pos
 tr:=fun k l σ Q X=>v.tr k l σ (Te t l Q) X
 ok:=fun c k l σ s Q X R S h=>by
  show Sv ht fun elts kk tpos e=>?_;have z:wpAny (model Ω.p Ω.w) c.A (exec (.Assign [.Tuple elts kk tpos] v.e pos) c.env) (SP c Q) (aM Ω.b c.all X c.g) s:=
   Assign_Tuple (gH (v.ok c k l σ s _ X R S h) fun u UB Uv Uz UE=>by
    rw[<-e];show gH (t.ok c l Uv UB u _ _ Uz UE) fun _ UC l' UA UF=>(xh _ l' Uv rfl UA UF)) (yB ..) (by rw[<-e];show hw c)
  rw[<-e] at z;show z
noncomputable def CS.unpack (v:CE F) (ns:List (Nat×Pos)) (kk:Nat) (tp pos:Pos):CS F where
 b:= .Assign [(eF.tup (F:=F) ns kk tp).e] v.e pos
 tr:=fun k l σ Q X=>gd (G1 v.e) (v.tr k l σ (Te (eF.tup ns kk tp) l Q) X)
 ok:=fun c k l σ s Q X R S h=>(CS.unpackP v (eF.tup ns kk tp) pos ⟨_,_,_,rfl⟩ fun c=>Bp (gh h).1 _).ok c k l σ s Q X R S (gh h).2
noncomputable def CS.unpackR (v:CE F) (ns:List (Nat×Str×Pos)) (kk:Nat) (tpos pos:Pos) (hx:∀n∈ns,F.names[n.1]?=some n.2.1/\(F.comp=false\/F.kinds[n.1]?=some .local))
 (hw:∀c:Cx F,swappedStores [.Tuple (ns.map fun n=>Expr.Name n.2.1 n.2.2) kk tpos] v.e c.env=pure (some (ns.map fun n=>n.2.1))):CS F where
 b:= .Assign [.Tuple (ns.map fun n=>Expr.Name n.2.1 n.2.2) kk tpos] v.e pos
 tr:=fun k l σ Q X=>v.tr k l σ (fun u Uv=>qt Uv u fun vs=>vs.length=ns.length/\Q .next (vA l (ns.reverse.map (·.1)) vs.reverse) Uv) X
 ok:=fun c k l σ s Q X R S h=>by
  show Assign_Tuple_swapped (gH (v.ok c k l σ s _ X R S h) fun u UB Uv Uz UE=>?_) (yB ..) (hw c);rw[a9];show yG Uz UE fun vs s' S' hl hp=>?_;rw[<-List.map_reverse,bq];show dw (vB ns.reverse (fun n hn=>hx n (List.mem_reverse.mp hn)) l Uv s' vs.reverse S' (by simpa using hl)) (fun _ s'' S''=>(xh _ _ Uv rfl S'' ?_)) fun _ _ e=>e;rw[show vs.reverse.map er=(vs.map er).reverse from List.map_reverse];show hp
noncomputable abbrev T9 (alive:AS->Prop) (f:aO->AS->Prop) (Q:ax):ax:=fun fl l₁ Uv=>match fl with
 | .next=>alive Uv/\f l₁ Uv
 | .cont=>alive Uv/\f l₁ Uv
 | .brk=>Q .next l₁ Uv
 | .ret u=>Q (.ret u) l₁ Uv
noncomputable abbrev Ua (B:CB F) (k:Nat) (σ:AS) (K:ax):aO->Prop:=fun l=>B.tr k l σ K fun _ _=>False
noncomputable def bU (T:eF F) (B:CB F) (alive:AS->Prop) (k:Nat) (Q:ax):List AV->aO->AS->Prop
 | [],l,σ=>Q .next l σ
 | v::r,l,σ=>T.tr l σ v (Ua B k σ (T9 alive (bU T B alive k Q r) Q))
structure eQ (T:eF F) (B:CB F) (k:Nat) (v:AV) (l:aO) (σ:AS) (Q:ax):Prop where
 run:∃alive xs,gv v alive xs/\alive σ/\bU T B alive k Q xs l σ
theorem eQ.of {T:eF F} {B:CB F} {k:Nat} {v:AV} {l:aO} {σ:AS} {Q:ax} {alive:AS->Prop} {xs:List AV} (h1:gv v alive xs) (h2:alive σ) (h3:bU T B alive k Q xs l σ):eQ T B k v l σ Q:=⟨⟨alive,xs,h1,h2,h3⟩⟩
theorem tC {A:Around} {R:Result->Shared->Prop} {target:Expr} {it:Value} {body:List Stmt} {env:Env} {s:Shared} (I:Nat->Shared->Prop)
 (turn:∀n s,I n s->wpAny (model Ω.p Ω.w) A (pyNext it) (fun r UB=>match r with
  | none=>R (.ok .next) UB
  | some v=>wpAny (model Ω.p Ω.w) A (letOwnedTupleGo target it v) (fun _ s₁'=>wpAny (model Ω.p Ω.w) A (assign target env v) (fun _ UC=>wpAny (model Ω.p Ω.w) A (execs body env) (fun f UD=>match f with
   | .next | .cont=>∃m,m<n/\I m UD
   | .brk=>R (.ok .next) UD
   | .ret v=>R (.ok (.ret v)) UD) (fun _ _=>False) UC) (fun _ _=>False) s₁') (fun _ _=>False) UB) (fun _ _=>False) s)
 (n:Nat) (h:I n s):codeAny (model Ω.p Ω.w) A (.forLoop target it body [] env) R s:=by
 show codeAny_loop' rfl I (fun n s hI=>?_) n h;change wpAny _ _ ((forTurn target it body [] env).onRaise (fun x=>do noteFrame x env;theTreesLotGoes x)) _ _ s;show wpAny_noted ?_;simp only [forTurn];show aJ (wpAny_standAt (aJ (wpAny_onRaise (dw (turn n s hI) (fun r UB UE=>?_) fun _ _ h'=>h'.elim))));cases r with
 | none=>show cS (.inr ⟨rfl,codeAny_block (wpAny_execs_nil UE)⟩)
 | some v=>
  show aJ (dw UE (fun _ s₁' h₁'=>?_) fun _ _ h'=>h'.elim);show aJ (dw h₁' (fun _ UC UF=>aJ (dw UF (fun f UD UG=>?_) fun _ _ h'=>h'.elim)) fun _ _ h'=>h'.elim);cases f with
  | next=>show cS (.inl ⟨rfl,UG⟩)
  | cont=>show cS (.inl ⟨rfl,UG⟩)
  | brk=>show cS UG
  | ret v=>show cS UG
theorem MH {T:eF F} {B:CB F} (c:Cx F) (hc:F.comp=false) (k:Nat) (R:da c.A k) {alive:AS->Prop} {xs:List AV} {It:Addr->Nat->Heap->Prop} (S0:MG alive xs It) (Q:ax) (I:Addr) (l:aO) (σ:AS) (s:Shared) (S:St c l σ s)
 (hm:¬c.mine I) (hσ:σ I=none) (hg:c.g.f I=none) (it:It I 0 s.heap) (al:alive σ) (h:bU T B alive k Q xs l σ) {RR:Result->Shared->Prop}
 (hR:∀l' UH s',St c l' UH s'->Q .next l' UH->RR (.ok .next) s') (hR':∀u l' UH s',St c l' UH s'->Q (.ret (er u)) l' UH->RR (.ok (.ret u)) s'):
 codeAny (model Ω.p Ω.w) c.A (.forLoop T.e (.ref I) B.b [] c.env) RR s:=by
 show tC (fun n s=>∃(i:Nat) (l:aO) (σ:AS),n+i=xs.length/\St c l σ s/\σ I=none/\It I i s.heap/\alive σ/\bU T B alive k Q (xs.drop i) l σ) ?_ xs.length ⟨0,l,σ,zo,S,hσ,it,al,h⟩;rintro n s ⟨i,l,σ,hn,S,hσ,it,al,h⟩;by_cases hi:i<xs.length
 . have hd:xs.drop i=xs[i]::xs.drop (i+1):=List.drop_eq_getElem_cons hi;rw[hd] at h;show S0.next c.A c.all _ I i s σ xs[i] _ _ c.handled S.outer S.rs.hide hσ al it (Bf hi) fun v h' tk ev it' eb=>?_;have S1:St c l σ ({s with heap:=h',toks:=tk}:Shared):=S.but hm hσ hg eb;show S0.go _ _ _ _ _ _ _ _ it' ?_;rw[<-ev] at h;show aw (S0.live _ _ _ it') fun oI hoI=>?_;show gH (T.ok (c.hold S1 hc) l σ _ v _ _ (S1.toHold hc) h) fun _ UC l₂ S2 UF=>?_;show dw (B.ok (c.hold S1 hc) k l₂ σ UC _ _ R S2 UF) (fun f UD hp=>eg hp fun f' l₃ Ux ef S3 UG=>?_) fun _ _ e=>aN e;have kI:=S1.held hc S3 hoI hσ hm;have S3':=S1.ofHold hc S3;have itn:It I (i+1) UD.heap:=S0.at_ _ _ _ _ it' fun o ho=>by rw[hoI] at ho;cases ho;show kI.1
   cases f<;>cases ef
   . show⟨n-1,zo,i+1,l₃,Ux,zo,S3',kI.2,itn,UG.1,UG.2⟩
   . show hR l₃ Ux UD S3' UG
   . show⟨n-1,zo,i+1,l₃,Ux,zo,S3',kI.2,itn,UG.1,UG.2⟩
   . show hR' _ l₃ Ux UD S3' UG
 . have hi':i=xs.length:=zo;subst hi';rw[List.drop_length] at h;show S0.done c.A c.all _ I s σ _ _ c.handled S.outer S.rs.hide hσ al it fun h' tk eb=>?_;show hR l σ _ (S.but hm hσ hg eb) h
noncomputable def CS.for_ (T:eF F) (x:CE F) (B:CB F) (pos:Pos):CS F where
 b:= .For T.e x.e B.b [] pos
 tr:=fun k l σ Q X=>gd (!F.comp) (x.tr k l σ (fun v Uv=>eQ T B k v l Uv Q) X)
 ok:=fun c k l σ s Q X R S h=>by
  show aL (gh h) fun g h=>?_;have hc:F.comp=false:=by simpa using g
  show wpAny_For (dw (x.ok c k l σ s _ X R S h) (fun v UB hp=>ae hp fun Uv Uz J=>aH J.run fun alive xs I al UE=>ae I.run fun It S0 start=>?_) fun _ _ e=>e) (gU x.pl _);show start c.A c.all _ UB Uv v _ _ c.handled Uz.outer Uz.rs.hide al rfl fun h' tk it gr=>?_;have fr:=a7 UB.heap;show MH c hc k R S0 Q UB.heap.objs.size l Uv _ (Uz.grown gr) (Uz.freshMine fr) (Uz.rs.free_of fr) (Uz.rs.none_of fr) it al UE ?_ ?_
  . show fun l' UH s' S' q=>(xh _ l' UH rfl S' q)
  . show fun u l' UH s' S' q=>(xh _ l' UH rfl S' q)
structure MI (p:Prop):Prop where
 go:p
noncomputable abbrev Tf (f:aO->AS->Prop) (Q:ax):ax:=fun fl l₂ Uw=>match fl with
 | .next=>MI (f l₂ Uw)
 | .cont=>MI (f l₂ Uw)
 | .brk=>Q .next l₂ Uw
 | .ret u=>Q (.ret u) l₂ Uw
noncomputable abbrev Tg (B:CB F) (k:Nat) (l:aO) (K Q:ax) (X:cC):gJ:=fun b σ=>Br b (B.tr k l σ K X) (Q .next l σ)
noncomputable def aX (t:CT F) (B:CB F) (k:Nat) (Q:ax):Nat->aO->AS->Prop
 | 0,_,_=>False
 | n+1,l,σ=>t.tr k l σ (Tg B k l (Tf (aX t B k Q n) Q) Q fun _ _=>False) fun _ _=>False
structure G8 (t:CT F) (B:CB F) (k:Nat) (l:aO) (σ:AS) (Q:ax):Prop where
 run:∃n,aX t B k Q n l σ
noncomputable def CS.while_ (t:CT F) (B:CB F) (pos:Pos):CS F where
 b:= .While t.e B.b [] pos
 tr:=fun k l σ Q X=>G8 t B k l σ Q
 ok:=fun c k l σ s Q X R S h=>by
  show aw h.run fun n h=>?_;show wpAny_While (codeAny_whileLoop (fun n s=>∃l σ,St c l σ s/\aX t B k Q n l σ) ?_ n ⟨l,σ,S,h⟩);rintro n s ⟨l,σ,S,h⟩;cases n with
  | zero=>show h.elim
  | succ n=>
   show dw (t.ok c k l σ s _ _ R S h) (fun b UB hp=>ae hp fun Uv Uz UE=>?_) fun _ _ e=>(aN e).elim;cases b
   . show wpAny_execs_nil ⟨_,l,Uv,rfl,Uz,UE.f rfl⟩
   . show dw (B.ok c k l Uv UB _ _ R Uz (UE.t rfl)) (fun f UC hp=>eg hp fun f' l₂ Uw ef UA UF=>?_) fun _ _ e=>(aN e).elim;cases f<;>cases ef
     . show⟨n,zo,l₂,Uw,UA,UF.go⟩
     . show⟨_,l₂,Uw,rfl,UA,UF⟩
     . show⟨n,zo,l₂,Uw,UA,UF.go⟩
     . show⟨_,l₂,Uw,rfl,UA,UF⟩
noncomputable def CS.break_ (pos:Pos):CS F where
 b:= .Break pos
 tr:=fun k l σ Q X=>Q .brk l σ
 ok:=fun c k l σ s Q X R S h=>wpAny_Break (xh _ l σ rfl S h)
noncomputable def CS.continue_ (pos:Pos):CS F where
 b:= .Continue pos
 tr:=fun k l σ Q X=>Q .cont l σ
 ok:=fun c k l σ s Q X R S h=>wpAny_Continue (xh _ l σ rfl S h)
noncomputable def CS.dead (st:Stmt):CS F where
 b:=st
 tr:=fun k l σ Q X=>False
 ok:=fun c k l σ s Q X R S h=>h.elim
variable {G:Fn}
theorem zK {A:Around} {R:Result->Shared->Prop} {elt target iter:Expr} {ifs:List Expr} {scope:Scope} {pos:Pos} {it Uq:Value} {env:Env} {s:Shared} (I:Nat->Shared->Prop)
 (turn:∀n s,I n s->wpAny (model Ω.p Ω.w) A (pyNext it) (fun r UB=>match r with
  | none=>R (.ok .next) UB
  | some v=>wpAny (model Ω.p Ω.w) A (letOwnedTupleGo target it v) (fun o_ s₁'=>wpAny (model Ω.p Ω.w) A (assign target env v) (fun o_ UC=>
   wpAny (model Ω.p Ω.w) A (forIn ifs true fun c r=>if r=true then do let ok<-isTrue c env (eval c env);pure (ForInStep.yield ok) else pure (ForInStep.yield r)) (fun ok UD=>
    if ok=true then wpAny (model Ω.p Ω.w) A (eval elt env) (fun x s₄=>
     wpAny (model Ω.p Ω.w) A (call (.builtin "list.append") [Uq,x]) (fun o_ s₅=>∃m,m<n/\I m s₅) (fun o_ o_=>False) s₄) (fun o_ o_=>False) UD
    else∃m,m<n/\I m UD) (fun o_ o_=>False) UC) (fun o_ o_=>False) s₁') (fun o_ o_=>False) UB) (fun o_ o_=>False) s)
 (n:Nat) (h:I n s):codeAny (model Ω.p Ω.w) A (.compLoop (.ListComp elt [⟨target,iter,ifs,0⟩] scope pos) 0 it Uq env) R s:=by
 show codeAny_loop rfl I (fun n s hI=>?_) n h;change wpAny _ A ((compTurn (.ListComp elt [⟨target,iter,ifs,0⟩] scope pos) 0 it Uq env).onRaise (fun x=>do noteFrame x env;theTreesLotGoes x)) _ _ s;show wpAny_noted ?_;rw[compTurn_list];show aJ (wpAny_standAt (aJ (dw (turn n s hI) (fun r UB UE=>?_) fun o_ o_ h'=>h'.elim)));cases r with
 | none=>show cS UE
 | some v=>
  show aJ (dw UE (fun o_ s₁' h₁'=>?_) fun o_ o_ h'=>h'.elim);show aJ (dw h₁' (fun o_ UC UF=>aJ (dw UF (fun ok UD UG=>?_) fun o_ o_ h'=>h'.elim)) fun o_ o_ h'=>h'.elim);cases ok with
  | false=>show cS ⟨rfl,UG⟩
  | true=>
   show aJ (aJ (dw UG (fun x s₄ h₄=>aJ (dw h₄ (fun o_ s₅ h₅=>cS (cS ⟨rfl,h₅⟩)) fun o_ o_ h'=>h'.elim)) fun o_ o_ h'=>h'.elim))
structure cE (F G:Fn) (sc:Scope) (fr:Option (Nat×Nat×Str)):Prop where
 comp:G.comp=true
 scope:∀env:Env,env.scope=F.scope->relabel sc env=G.scope
 kind:sc.kind= .function
 nocell:∀x∈sc.names,x.2≠.cell
 names:∀x∈sc.names,x.2= .local->sc.names.lookup x.1=some .local
 free:match fr with
  | none=>(∀env:Env,closureFor sc env=pure [])/\∀kd∈G.kinds,kd= .local
  | some (i,j,x)=>F.names[i]?=some x/\F.kinds[i]?=some .cell/\G.names[j]?=some x/\G.kinds[j]?=some .cell/\(∀(env:Env) (ca:Addr),env.cells.lookup x=some ca->closureFor sc env=pure [(x,ca)])/\∀j' kd,j'≠j->G.kinds[j']?=some kd->kd= .local
noncomputable def iN (G:Fn) (fr:Option (Nat×Nat×Str)) (l:aO):aO:=match fr with
 | none=>List.replicate G.names.length none
 | some (i,j,_)=>(List.replicate G.names.length none).set j (l[i]?).join
open Classical in
noncomputable def vD (C:Addr) (σ:AS) (s:Shared):Fz:=⟨fun b=>if b=C then none else(Mine.hide σ s).f b,s.os⟩
theorem jE {C:Addr} {σ:AS} {s:Shared} {b:Addr} (e:b≠C):(vD C σ s).f b=(Mine.hide σ s).f b:=dr e
theorem vE {C:Addr} {σ:AS} {s:Shared}:(vD C σ s).f C=none:=eM rfl
section
variable {c:Cx F} {l:aO} {s s':Shared} {C:Addr} {cl:List (Str×Addr)}
theorem St.keepC (S:St c l σ s) (hC:c.g.f C=none) {b:Addr} {o:Obj} (e:c.g.f b=some o):(vD C σ s).f b=some o:=by
 rw[jE fun z=>by rw[z,hC] at e;cases e];show S.keepG e
noncomputable def Cx.comp (c:Cx F) (G:Fn) (hG:G.comp=true) (S:St c l σ s) (C:Addr) (cl:List (Str×Addr)) (hC:c.g.f C=none) (hm:¬c.mine C) (hcl:∀x ca,cl.lookup x=some ca->ca≠C) (hap:cl.Pairwise fun x y=>x.2≠y.2):Cx G where
 A:=c.A
 all:=c.all
 g:=vD C σ s
 L:=C
 cells:=cl
 qual:=c.qual
 func:=none
 cd:=c.cd
 fr:=c.fr
 world:=c.world
 frames:=c.frames
 handled:=c.handled
 keeps:=fun b o e=>S.keepC hC (c.keeps b o e)
 stack:=fun env he=>by
  obtain⟨h1,Lf,h2,h3,h4⟩:=c.stack env he;rcases h4 with rfl | ⟨o,h4,h5⟩
  . show ae S.live fun o ho hf=>?_;show⟨h1,c.L,h2,h3,.inr ⟨o,by rw[jE fun z=>hm (.inl z.symm),bH S.no];show ho,hf⟩⟩
  . show⟨h1,Lf,h2,h3,.inr ⟨o,S.keepC hC h4,h5⟩⟩
 mods:=let ⟨o,e⟩:=c.mods;⟨o,S.keepC hC e⟩
 fresh:=vE
 apart:=hap
 cellL:=hcl
 cellg:=fun e=>by rw[hG] at e;cases e
 top:=fun e=>by rw[hG] at e;cases e
variable {hG:G.comp=true} {hC:c.g.f C=none} {hm:¬c.mine C} {hcl:∀x ca,cl.lookup x=some ca->ca≠C} {hap:cl.Pairwise fun x y=>x.2≠y.2}
theorem St.toComp {lG:aO} {m:Str->Option Value} (S:St c l σ s) (hn:s.heap.Ns C m) (hl:∀(i:Nat) (x:Str) (kd:NameKind),G.names[i]?=some x->G.kinds[i]?=some kd->ct s.heap m cl kd x (lG[i]?).join) (len:lG.length=G.names.length) (hσ:σ C=none)
 (hcs:∀x ca,cl.lookup x=some ca->∃y,c.cells.lookup y=some ca):St (c.comp G hG S C cl hC hm hcl hap) lG σ s:=
 ⟨⟨m,hn,hl⟩,len,⟨fun b o e=>by
  have e':(vD C σ s).f b=some o:=e;by_cases q:b=C
  . rw[q,vE] at e';cases e'
  . rw[jE q] at e';show S.rs.hide.keep b o e',fun a o e=>⟨by
  change(vD C σ s).f a=none;by_cases q:a=C
  . rw[q];show vE
  . rw[jE q];show(S.rs.hide.own a o e).1,(S.rs.own a o e).2⟩,rfl,S.rs.calm.2⟩,hσ,fun x ca hx=>let ⟨y,hy⟩:=hcs x ca hx;S.noc y ca hy⟩
theorem St.heldC {lG:aO} {UH:AS} (S:St c l σ s) (S':St (c.comp G hG S C cl hC hm hcl hap) lG UH s') {b:Addr} {o:Obj} (hb:s.heap.get? b=some o) (hσ:σ b=none) (hne:b≠C):s'.heap.get? b=some o/\UH b=none:=by
 have e:(vD C σ s).f b=some o:=by rw[jE hne,bH hσ];show hb
 show⟨S'.rs.keep b o e,?_⟩;cases q:UH b with
 | none=>rfl
 | some o'=>show absurd ((S'.rs.own b o' q).1.symm.trans e) nofun
theorem St.ofComp {lG:aO} {UH:AS} (S:St c l σ s) (S':St (c.comp G hG S C cl hC hm hcl hap) lG UH s'):St c l UH s':=by
 have kc:∀y ca,c.cells.lookup y=some ca->∀o,s.heap.get? ca=some o->s'.heap.get? ca=some o/\UH ca=none:=fun y ca hy o ho=>S.heldC S' ho (S.noc y ca hy).1 fun z=>hm (.inr ⟨y,z▸hy⟩);show ae S.ns fun m hn hl=>?_;show ae S.live fun oL hoL o_=>?_;have kL:=S.heldC S' hoL S.no fun z=>hm (.inl z.symm);show⟨⟨m,hn.at' fun o ho=>by rw[hoL] at ho;cases ho;show kL.1,fun i x kd h1 h2=>(hl i x kd h1 h2).keeps fun y ca hy o ho=>(kc y ca hy o ho).1⟩,S.len,
  ⟨fun b o e=>S'.rs.keep b o (S.keepC hC e),fun a o e=>⟨by
   cases q:c.g.f a with
   | none=>rfl
   | some o'=>show absurd ((S'.rs.own a o e).1.symm.trans (S.keepC hC q)) nofun,(S'.rs.own a o e).2⟩,S'.rs.calm.1.trans S.rs.calm.1,S'.rs.calm.2⟩,kL.2,
  fun x ca hx=>let ⟨o,ho⟩:=(S.noc x ca hx).2;⟨(kc x ca hx o ho).2,o,(kc x ca hx o ho).1⟩⟩
end
noncomputable def Jj (t:Option (CT G)) (k:Nat) (l:aO) (σ:AS) (Q:Bool->AS->Prop):Prop:=match t with
 | none=>Q true σ
 | some t=>t.tr k l σ Q fun o_ o_=>False
noncomputable def bN (T:eF G) (t:Option (CT G)) (x:CE G) (alive:AS->Prop) (k:Nat) (Q:List AV->AS->Prop):List AV->List AV->aO->AS->Prop
 | [],Uq,l,σ=>Q Uq σ
 | v::r,Uq,l,σ=>T.tr l σ v fun l'=>Jj t k l' σ fun b Uv=>Br b (x.tr k l' Uv (fun u Uw=>alive Uw/\bN T t x alive k Q r (Uq++[u]) l' Uw) fun o_ o_=>False) (alive Uv/\bN T t x alive k Q r Uq l' Uv)
structure iO (T:eF G) (t:Option (CT G)) (x:CE G) (k:Nat) (v:AV) (lG:aO) (σ:AS) (Q:aG):Prop where
 run:∃alive xs,gv v alive xs/\alive σ/\xs.length<=1000000/\bN T t x alive k (fun Uq UH=>∀p,UH p=none->Q (.ref p) (UH.set p (.list Uq))) xs [] lG σ
theorem iO.of {T:eF G} {t:Option (CT G)} {x:CE G} {k:Nat} {v:AV} {lG:aO} {σ:AS} {Q:aG} {alive:AS->Prop} {xs:List AV} (h1:gv v alive xs) (h2:alive σ) (h3:xs.length<=1000000) (h4:bN T t x alive k (fun Uq UH=>∀p,UH p=none->Q (.ref p) (UH.set p (.list Uq))) xs [] lG σ):iO T t x k v lG σ Q:=⟨⟨alive,xs,h1,h2,h3,h4⟩⟩
noncomputable def Nr (t:Option (CT G)):List Expr:=match t with
 | none=>[]
 | some t=>[t.e]
theorem Jk {t:Option (CT G)} (c:Cx G) (k:Nat) (l:aO) (σ:AS) (s:Shared) (Q:Bool->AS->Prop) (R:da c.A k) (S:St c l σ s) (h:Jj t k l σ Q):
 wpAny (model Ω.p Ω.w) c.A (forIn (Nr t) true fun e r=>if r=true then do let ok<-isTrue e c.env (eval e c.env);pure (ForInStep.yield ok) else pure (ForInStep.yield r)) (EQ c l Q) (fun o_ o_=>False) s:=by
 cases t with
 | none=>show wpAny_tests_nil (aS σ S.tok h)
 | some t=>show wpAny_tests_one (dw (t.ok c k l σ s _ _ R S h) (fun o_ o_ z=>z) fun o_ o_ e=>aN e)
structure zL (c:Cx F) (G:Fn) (cl:List (Str×Addr)) (I D C:Addr):Prop where
 hG:G.comp=true
 ap:cl.Pairwise fun x y=>x.2≠y.2
 cs:∀x ca,cl.lookup x=some ca->∃y,c.cells.lookup y=some ca
 ne:∀x ca,cl.lookup x=some ca->ca≠C
 ID:I≠D
 IC:I≠C
 DC:D≠C
 mI:¬c.mine I
 mD:¬c.mine D
 mC:¬c.mine C
 gI:c.g.f I=none
 gD:c.g.f D=none
 gC:c.g.f C=none
inductive CI (c:Cx F) (G:Fn) (cl:List (Str×Addr)) (I D C:Addr) (alive:AS->Prop) (It:Addr->Nat->Heap->Prop) (l:aO) (N:Nat) (P:Nat->aO->AS->Heap->Prop) (n:Nat) (s:Shared):Prop
 | mk (i:Nat) (lG:aO) (σ:AS) (m:Str->Option Value) (hi:n+i=N) (S:St c l σ s) (len:lG.length=G.names.length) (sI:σ I=none) (sD:σ D=none) (sC:σ C=none) (it:It I i s.heap) (ns:s.heap.Ns C m)
  (vl:∀(i:Nat) (x:Str) (kd:NameKind),G.names[i]?=some x->G.kinds[i]?=some kd->ct s.heap m cl kd x (lG[i]?).join) (al:alive σ) (p:P i lG σ s.heap):CI c G cl I D C alive It l N P n s
theorem ct.but {c:Cx F} {h h':Heap} {m:Str->Option Value} {cl:List (Str×Addr)} {kd:NameKind} {x:Str} {v:Option AV} {I:Addr} (V:ct h m cl kd x v) (cs:∀x ca,cl.lookup x=some ca->∃y,c.cells.lookup y=some ca) (hm:¬c.mine I) (eb:Heap.ExtBut I h h'):ct h' m cl kd x v:=
 V.keeps fun y ca hy o ho=>eb ca o (fun z=>(cs y ca hy).elim fun y' hy'=>hm (.inr ⟨y',z▸hy'⟩)) ho
theorem yH (c:Cx F) {alive:AS->Prop} {xs:List AV} {It:Addr->Nat->Heap->Prop} (S0:MG alive xs It) {I D C:Addr} {cl:List (Str×Addr)} (Z:zL c G cl I D C) {l:aO} {P:Nat->aO->AS->Heap->Prop} {n:Nat} {s:Shared} (J:CI c G cl I D C alive It l xs.length P n s)
 (hP:∀i lG σ h h',P i lG σ h->(∀o,h.get? D=some o->h'.get? D=some o)->P i lG σ h') {Q:aG} {X:cC} (done:∀lG σ h,P xs.length lG σ h->σ D=none->∃ob ao,h.get? D=some ob/\AO.Of Ω.p Ω.w ob ao/\Q (.ref D) (σ.set D ao))
 {K:Option Value->Shared->Prop} {E:Value->Shared->Prop} (hK:∀s',compPost (model Ω.p Ω.w) c.A (aM Ω.b c.all X c.g) none (EP c l Q) (.ref D) C (.ok .next) s'->K none s')
 (go:∀(cG:Cx G) (i:Nat) (lG:aO) (σ:AS) (UB:Shared) (v:Value),cG.A=c.A->cG.env=pp G.scope C cl c.qual none c.cd c.fr->xs.drop i=er v::xs.drop (i+1)->St cG lG σ UB->P i lG σ UB.heap->i<xs.length->
  (∀tg Q (E:Value->Shared->Prop),Q () UB->wpAny (model Ω.p Ω.w) c.A (letOwnedTupleGo tg (.ref I) v) Q E UB)->(∀lG' UH s',St cG lG' UH s'->∀o,UB.heap.get? D=some o->s'.heap.get? D=some o/\UH D=none)->
  (∀lG' UH s' h' tk,St cG lG' UH s'->Heap.ExtBut D s'.heap h'->UH D=none->alive UH->P (i+1) lG' UH h'->∃m,m<n/\CI c G cl I D C alive It l xs.length P m ({s' with heap:=h',toks:=tk}:Shared))->K (some v) UB):
 wpAny (model Ω.p Ω.w) c.A (pyNext (.ref I)) K E s:=by
 cases J with
 | mk i lG σ m hi S len sI sD sC it ns vl al p=>
 by_cases hi':i<xs.length
 . have hd:xs.drop i=xs[i]::xs.drop (i+1):=List.drop_eq_getElem_cons hi';show S0.next c.A c.all _ I i s σ xs[i] _ _ c.handled S.outer S.rs.hide sI al it (Bf hi') fun v h' tk ev it' eb=>?_;rw[<-ev] at hd;have S1:St c l σ ({s with heap:=h',toks:=tk}:Shared):=S.but Z.mI sI Z.gI eb;show aw (S0.live _ _ _ it') fun oI hoI=>?_;show go (c.comp G Z.hG S1 C cl Z.gC Z.mC Z.ne Z.ap) i lG σ _ v rfl rfl hd (S1.toComp (ns.extBut eb (ez Z.IC)) (fun i x kd h1 h2=>(vl i x kd h1 h2).but Z.cs Z.mI eb) len sC Z.cs) (hP _ _ _ _ _ p fun o e=>eb _ _ (ez Z.ID) e) hi'
    (fun _ _ _ q=>S0.go _ _ _ _ _ _ _ _ it' q) (fun _ _ _ S3 o ho=>S1.heldC S3 ho sD Z.DC) fun l₂ Ux UD UG tk₃ S3 eb' sD3 al' p'=>?_
   have kI:=S1.heldC S3 hoI sI Z.IC;have e0:∀o,({s with heap:=h',toks:=tk}:Shared).heap.get? I=some o->UD.heap.get? I=some o:=fun o ho=>(S1.heldC S3 ho sI Z.IC).1;show ae S3.ns fun m3 hn3 hv3=>?_;show⟨n-1,zo,.mk (i+1) l₂ Ux m3 zo ((S1.ofComp S3).but Z.mD sD3 Z.gD eb') S3.len kI.2 sD3 S3.no (S0.at_ _ _ _ _ (S0.at_ _ _ _ _ it' e0) fun o ho=>eb' _ _ Z.ID ho) (hn3.extBut eb' (ez Z.DC)) (fun i x kd h1 h2=>(hv3 i x kd h1 h2).but Z.cs Z.mD eb') al' p'⟩
 . have hi2:i=xs.length:=zo;show S0.done c.A c.all _ I s σ _ _ c.handled S.outer S.rs.hide sI al (hi2▸it) fun h' tk eb=>?_;show hK _ ⟨m,ns.extBut eb (ez Z.IC),fun h'' sb=>?_⟩;show aH (done lG σ _ (hP _ _ _ _ _ (hi2▸p) fun o e=>sb.extBut _ _ Z.DC (eb _ _ (ez Z.ID) e)) sD) fun ob ao hob hof q=>?_;have S4:St c l σ ({s with heap:=h'',toks:=tk}:Shared):=(S.but Z.mI sI Z.gI eb).but (s':={s with heap:=h'',toks:=tk}) Z.mC sC Z.gC sb.extBut;show⟨σ.set D ao,⟨S4.ns,S4.len,S4.rs.put Z.gD (fun b o _ e=>e) hob hof,?_,fun y ca hy=>⟨?_,(S4.noc y ca hy).2⟩⟩,q⟩
   . rw[AS.UK fun z=>Z.mD (.inl z.symm)];show S4.no
   . rw[AS.UK fun z=>Z.mD (.inr ⟨y,by rw[<-z];show hy⟩)];show(S4.noc y ca hy).1
theorem eF.okE (T:eF G) {cG:Cx G} {A:Around} {env:Env} (eA:cG.A=A) (eE:cG.env=env) {lG:aO} {σ:AS} {s:Shared} {v:Value} {Q:aO->Prop} {K:Unit->Shared->Prop} {E:Value->Shared->Prop} (S:St cG lG σ s) (h:T.tr lG σ (er v) Q) (k:∀s' l',St cG l' σ s'->Q l'->K () s'):wpAny (model Ω.p Ω.w) A (assign T.e env v) K E s:=by
 subst eA eE;show gH (T.ok cG lG σ s v Q E S h) fun _ s' l' S' q=>k s' l' S' q
theorem CE.okE (x:CE G) {cG:Cx G} {A:Around} {env:Env} (eA:cG.A=A) (eE:cG.env=env) {k:Nat} (R:da A k) {lG:aO} {σ:AS} {s:Shared} {Q:aG} {K:Value->Shared->Prop} {E:Value->Shared->Prop} (S:St cG lG σ s) (h:x.tr k lG σ Q fun _ _=>False) (kk:∀v s' UH,St cG lG UH s'->Q (er v) UH->K v s'):wpAny (model Ω.p Ω.w) A (eval x.e env) K E s:=by
 subst eA eE;show dw (x.ok cG k lG σ s Q _ R S h) (fun v s' hp=>ae hp fun UH S' q=>kk v s' UH S' q) fun _ _ e=>(aN e).elim
theorem Bw {t:Option (CT G)} {cG:Cx G} {A:Around} {env:Env} (eA:cG.A=A) (eE:cG.env=env) {k:Nat} (R:da A k) {lG:aO} {σ:AS} {s:Shared} {K:Bool->Shared->Prop} {E:Value->Shared->Prop} {p:AS->Prop} {q:AS->Prop} (S:St cG lG σ s) (h:Jj t k lG σ fun b Uv=>Br b (p Uv) (q Uv))
 (h1:∀s' UH,St cG lG UH s'->p UH->K true s') (h0:∀s' UH,St cG lG UH s'->q UH->K false s'):
 wpAny (model Ω.p Ω.w) A (forIn (Nr t) true fun e r=>if r=true then do let ok<-isTrue e env (eval e env);pure (ForInStep.yield ok) else pure (ForInStep.yield r)) K E s:=by
 subst eA eE;show dw (Jk cG k lG σ s _ R S h) (fun b s' hp=>ae hp fun UH S' z=>?_) fun _ _ e=>e.elim;cases b with
 | false=>show h0 s' UH S' (z.f rfl)
 | true=>show h1 s' UH S' (z.t rfl)
noncomputable abbrev G9 (D:Addr) (T:eF G) (t:Option (CT G)) (x:CE G) (alive:AS->Prop) (k:Nat) (Q:aG) (xs:List AV) (i:Nat) (lG:aO) (σ:AS) (h:Heap):Prop:=
 ∃(vs:Array Value) (nn:Nat),IsL h D vs nn/\vs.size<=i/\bN T t x alive k (fun Uq UH=>∀p,UH p=none->Q (.ref p) (UH.set p (.list Uq))) (xs.drop i) (vs.toList.map er) lG σ
theorem Jl {T:eF G} {t:Option (CT G)} {x:CE G} {iter:Expr} {sc:Scope} {pos:Pos} (c:Cx F) (k:Nat) (R:da c.A k) {alive:AS->Prop} {xs:List AV} {It:Addr->Nat->Heap->Prop} (S0:MG alive xs It)
 {Q:aG} {X:cC} (hz:xs.length<=1000000) {I D C:Addr} {cl:List (Str×Addr)} (Z:zL c G cl I D C) {l:aO} {s:Shared} (J:CI c G cl I D C alive It l xs.length (G9 D T t x alive k Q xs) xs.length s) {env:Env} (henv:env=pp G.scope C cl c.qual none c.cd c.fr):
 codeAny (model Ω.p Ω.w) c.A (.compLoop (.ListComp x.e [⟨T.e,iter,Nr t,0⟩] sc pos) 0 (.ref I) (.ref D) env) (compPost (model Ω.p Ω.w) c.A (aM Ω.b c.all X c.g) none (EP c l Q) (.ref D) C) s:=by
 show zK (CI c G cl I D C alive It l xs.length (G9 D T t x alive k Q xs)) (fun n s J=>?_) _ J;show yH c S0 Z J (fun i lG σ h h' p e=>aH p fun vs nn h1 h2 h3=>⟨vs,nn,e _ h1,h2,h3⟩) (Q:=Q) (X:=X) (fun lG σ h p z=>aH p fun vs nn h1 h2 h3=>?_) (fun _ z=>z) fun cG i lG σ UB v eA eE hd S p hi own kD close=>?_
 . rw[List.drop_length] at h3;show⟨_,_,h1,dW rfl,h3 D z⟩
 show aH p fun vs nn h1 h2 h3=>?_;rw[hd] at h3;rw[<-henv] at eE;show own _ _ _ (T.okE eA eE S h3 fun UC l₂ S2 UF=>Bw eA eE R S2 UF (fun UD Ux S3 h4=>?_) fun UD Ux S3 h4=>?_)
 . rw[eM rfl];show x.okE eA eE R S3 h4 fun u s₄ Uy S4 h5=>?_;have hD4:=kD _ _ _ S4 _ h1;show call_meets PySem.F.slot_list_append (aS _ hD4.1 rfl) PySem.F.entry_list_append (PySem.F.args_list_append_2 _ _) (list_append D vs nn u (by rw[mU];lia)) ⟨hD4.1,close _ _ _ _ _ S4 (Heap.SameBut.update _ _ _).extBut hD4.2 h5.1 ⟨_,_,IsL.update hD4.1 _,?_,?_⟩⟩
   . simp;lia
   . simpa using h5.2
 . rw[dr Bool.false_ne_true];show close _ _ _ _ _ S3 (fun _ _ _ e=>e) (kD _ _ _ S3 _ h1).2 h4.1 ⟨vs,nn,(kD _ _ _ S3 _ h1).1,zo,h4.2⟩
theorem Bx {F G:Fn} {sc:Scope} {fr:Option (Nat×Nat×Str)} (ci:cE F G sc fr) (c:Cx F) (C:Addr) (cl:List (Str×Addr)):({newEnv sc C c.env.globals cl c.env.qual none .none (some c.env) c.env.builtins with scope:=relabel sc c.env}:Env)=pp G.scope C cl c.qual none c.cd c.fr:=by
 rw[ci.scope c.env rfl];rfl
noncomputable def lQ (fr:Option (Nat×Nat×Str)) (cells:List (Str×Addr)):List (Str×Addr):=match fr with
 | none=>[]
 | some (_,_,x)=>match cells.lookup x with
  | some ca=>[(x,ca)]
  | none=>[]
theorem pz {F G:Fn} {sc:Scope} {fr:Option (Nat×Nat×Str)} (ci:cE F G sc fr) (c:Cx F) {l:aO} {σ:AS} {s:Shared} (S:St c l σ s):
 closureFor sc c.env=pure (lQ fr c.cells)/\((lQ fr c.cells).Pairwise fun x y=>x.2≠y.2)/\(∀x ca,(lQ fr c.cells).lookup x=some ca->∃y,c.cells.lookup y=some ca)/\∀(h':Heap) (C:Addr),(∀b o,s.heap.get? b=some o->h'.get? b=some o)->h'.Ns C (fun o_=>none)->
  ∀(i:Nat) (x:Str) (kd:NameKind),G.names[i]?=some x->G.kinds[i]?=some kd->ct h' (fun o_=>none) (lQ fr c.cells) kd x ((iN G fr l)[i]?).join:=by
 have hf:=ci.free;have rep:∀(n i:Nat),((List.replicate n (none:Option AV))[i]?).join=none:=fun n i=>by
  rw[List.getElem?_replicate];split<;>rfl
 cases fr with
 | none=>
  show⟨hf.1 _,List.Pairwise.nil,(fun x ca q=>nomatch q),fun h' C o_ o_ i x kd hx hk=>?_⟩;have e:=hf.2 kd (zz hk);subst e;unfold ct;rw[dr zd];show(rep _ _).symm
 | some p=>
  obtain⟨i0,j,x0⟩:=p;show Sq hf fun h1 h2 h3 h3' h4 h5=>?_;show ae S.ns fun m hn hl=>?_;have V:=hl i0 x0 _ h1 h2;unfold ct at V;rw[eM rfl] at V;show aH V fun ca vo q1 q2 q3=>?_;have ecl:lQ (some (i0,j,x0)) c.cells=[(x0,ca)]:=by unfold lQ;simp only [q1]
  rw[ecl];show⟨h4 _ _ q1,zs,fun x ca' q=>?_,fun h' C gr o_ i x kd hx hk=>?_⟩
  . rw[List.lookup_cons] at q;split at q
    . cases q;show⟨x0,q1⟩
    . cases q
  . by_cases e:i=j
    . subst e;rw[h3] at hx;cases hx;have lt:i<G.names.length:=(LX.mp h3).1;rw[h3'] at hk;cases hk;have lv:(((List.replicate G.names.length (none:Option AV)).set i (l[i0]?).join)[i]?).join=(l[i0]?).join:=by simp [lt]
      unfold ct iN;dsimp only;rw[lv];rw[eM rfl];show⟨ca,vo,by rw[List.lookup_cons,show(x0==x0)=true from beq_self_eq_true x0],q2.keeps gr,q3⟩
    . have e':=h5 i kd e hk;subst e';unfold ct;rw[dr zd];unfold iN;dsimp only;rw[List.getElem?_set,dr (fun z=>e z.symm)];show(rep _ _).symm
theorem yI {G:Fn} {sc:Scope} {fr:Option (Nat×Nat×Str)} (ci:cE F G sc fr) (c:Cx F) {alive:AS->Prop} {xs:List AV} {It:Addr->Nat->Heap->Prop} (S0:MG alive xs It) {l:aO} {σ:AS} {s:Shared} (S:St c l σ s) {h':Heap} (al:alive σ)
 (gr:∀b o,s.heap.get? b=some o->h'.get? b=some o) (it:It s.heap.objs.size 0 h') {ob:Obj} {C:Addr} {UF:Heap} (hC:C=h'.objs.size+1) (hns:UF.Ns C fun _=>none) (gr2:∀b o,h'.get? b=some o->UF.get? b=some o) (hob:UF.get? h'.objs.size=some ob) {UD:Shared} (e3:UD.heap=UF) (q3:vn s UD):
 zL c G (lQ fr c.cells) s.heap.objs.size h'.objs.size C/\It s.heap.objs.size 0 UD.heap/\∀P:Nat->aO->AS->Heap->Prop,P 0 (iN G fr l) σ UF->CI c G (lQ fr c.cells) s.heap.objs.size h'.objs.size C alive It l xs.length P xs.length UD:=by
 subst e3;have fr0:=a7 s.heap;have fD:=a7 h';have hDC:h'.objs.size≠C:=by rw[hC];show Nat.ne_of_lt (Nat.lt_succ_self _)
 have fC:h'.get? C=none:=by
  cases q:h'.get? C with
  | none=>rfl
  | some o=>show absurd (va q) (Nat.not_lt.mpr (hC▸Nat.le_succ _))
 have S3:St c l σ UD:=S.grown (fun b o e=>gr2 _ _ (gr _ _ e)) q3;show aw (S0.live _ _ _ it) fun oI hoI=>?_;have ne_of:∀b,h'.get? b=none->s.heap.objs.size≠b:=fun b q z=>by rw[<-z,hoI] at q;cases q
 have S2:St c l σ {s with heap:=h'}:=S.grown gr;show ux (pz ci c S3) fun _ hap hcs hv=>?_;have itn:It s.heap.objs.size 0 UD.heap:=S0.at_ _ _ _ _ it fun o ho=>gr2 _ _ ho;show⟨⟨ci.comp,hap,hcs,fun x ca q z=>aw (hcs x ca q) fun y hy=>S2.freshMine fC (.inr ⟨y,z▸hy⟩),ne_of _ fD,ne_of _ fC,hDC,S.freshMine fr0,S2.freshMine fD,S2.freshMine fC,S.rs.none_of fr0,S2.rs.none_of fD,S2.rs.none_of fC⟩,itn,
  fun P hp=> .mk 0 (iN G fr l) σ (fun _=>none) (Nat.add_zero _) S3 (by unfold iN;cases fr<;>simp) (S.rs.free_of fr0) (S2.rs.free_of fD) (S2.rs.free_of fC) itn hns (hv _ C (fun _ _ e=>e) hns) al hp⟩
theorem vF {sc:Scope} {cl:List (Str×Addr)} (hc:∀x∈sc.names,x.2≠.cell) (hk:sc.kind= .function) {g:Addr} {qual:Str} {ar:Option Env} {bu:Addr} {M:Model} {A:Around} {s UC:Shared} {h':Heap} {ob:Obj} (hf:ob.isFreed=false) (e2:UC.heap=h'.push ob) (q2:vn s UC) {K:Env->Shared->Prop} {E:Value->Shared->Prop}
 (k:∀(C:Addr) (UD:Shared),C=h'.objs.size+1->(UD.heap.Ns C fun _=>none)->(∀b o,h'.get? b=some o->UD.heap.get? b=some o)->UD.heap.get? h'.objs.size=some ob->vn s UD->K (newEnv sc C g cl qual none .none ar bu) UD):
 wpAny M A (newFunctionEnv sc g cl [] qual none .none ar bu) K E UC:=by
 show wpAny_newFunctionEnv hc aF (fun UF hns hsb=>?_) hk;have hC:UC.heap.objs.size=h'.objs.size+1:=by rw[e2,Heap.size_push]
 show k _ _ hC hns (fun b o e=>hsb.extBut b o (hC▸Nat.ne_of_lt (Nat.lt_succ_of_lt (va e))) (qo _ (e2▸qo _ e))) (hsb.extBut _ _ (hC▸Nat.ne_of_lt (Nat.lt_succ_self _)) (qo _ (e2▸zA _ hf))) q2
noncomputable def CE.listcomp (T:eF G) (t:Option (CT G)) (x:CE G) (iter:CE F) (sc:Scope) (fr:Option (Nat×Nat×Str)) (pos:Pos) (ci:cE F G sc fr):CE F where
 e:= .ListComp x.e [⟨T.e,iter.e,Nr t,0⟩] sc pos
 tr:=fun k l σ Q X=>iter.tr k l σ (fun v Uv=>iO T t x k v (iN G fr l) Uv Q) X
 ok:=fun c k l σ s Q X R S h=>by
  rw[eval_ListComp];show wpAny_comprehension_free (use:=Option.none) rfl (gU iter.pl _) (pz ci c S).1 ci.kind ci.names (dw (iter.ok c k l σ s _ X R S h) (fun v UB hp=>ae hp fun Uv Uz J=>I0 J.run fun alive xs I al hz UE=>ae I.run fun It S0 start=>?_) fun _ _ e=>e);show start c.A c.all _ UB Uv v _ _ c.handled Uz.outer Uz.rs.hide al rfl fun h' tk it gr=>?_;show wpAny_newList ?_ (Nat.zero_le _);show vF ci.nocell ci.kind (ob:={cls:= .type "list",data:= .seq #[]}) rfl rfl ⟨rfl,rfl⟩ fun C UD hC hns gr2 hob q3=>?_;show GV (yI ci c S0 Uz al gr it hC hns gr2 hob rfl q3) fun Z itn J=>?_;have loop:=Jl (X:=X) (iter:=iter.e) (sc:=sc) (pos:=pos) c k R S0 hz Z (J (G9 _ T t x alive k Q xs) ⟨_,_,hob,Nat.le_refl _,UE⟩) (Bx ci c C _);show codeAny_compStart_list loop (S0.self _ _ _ _ _ _ itn loop)
end
noncomputable section
open MeetsSeq
variable {G:Fn}
noncomputable def mZ (i0:Nat) (t:Option (CT G)) (kx vx:CE G) (alive:AS->Prop) (k:Nat) (Q:List (AK×AV)->AS->Prop):List AV->List (AK×AV)->aO->AS->Prop
 | [],Uq,l,σ=>Q Uq σ
 | v::r,Uq,l,σ=>Jj t k (l.set i0 (some v)) σ fun b Uv=>Br b (kx.tr k (l.set i0 (some v)) Uv (fun kv Uw=>vx.tr k (l.set i0 (some v)) Uw (fun u Ux=>∃y:AK,kv=y.av/\alive Ux/\mZ i0 t kx vx alive k Q r (iH Uq y u) (l.set i0 (some v)) Ux) fun _ _=>False) fun _ _=>False) (alive Uv/\mZ i0 t kx vx alive k Q r Uq (l.set i0 (some v)) Uv)
structure vG (i0:Nat) (t:Option (CT G)) (kx vx:CE G) (k:Nat) (v:AV) (lG:aO) (σ:AS) (Q:aG):Prop where
 run:∃alive xs,gv v alive xs/\alive σ/\xs.length<=1000000/\mZ i0 t kx vx alive k (fun Uq UH=>∀p ep,UH p=none->Q (.ref p) (UH.set p (.dict ep Uq))) xs [] lG σ
theorem vG.of {i0:Nat} {t:Option (CT G)} {kx vx:CE G} {k:Nat} {v:AV} {lG:aO} {σ:AS} {Q:aG} {alive:AS->Prop} {xs:List AV} (h1:gv v alive xs) (h2:alive σ) (h3:xs.length<=1000000) (h4:mZ i0 t kx vx alive k (fun Uq UH=>∀p ep,UH p=none->Q (.ref p) (UH.set p (.dict ep Uq))) xs [] lG σ):vG i0 t kx vx k v lG σ Q:=⟨⟨alive,xs,h1,h2,h3,h4⟩⟩
noncomputable abbrev Dt (D:Addr) (i0:Nat) (t:Option (CT G)) (kx vx:CE G) (alive:AS->Prop) (k:Nat) (Q:aG) (xs:List AV) (i:Nat) (lG:aO) (σ:AS) (h:Heap):Prop:=
 ∃(kvs:List (AK×Value)) (ep:Nat),h.DictAt (bS Ω.p Ω.w) D kvs ep/\kvs.length<=i/\mZ i0 t kx vx alive k (fun Uq UH=>∀p ep,UH p=none->Q (.ref p) (UH.set p (.dict ep Uq))) (xs.drop i) (kvs.map L4) lG σ
theorem Du {kvs:List (AK×Value)} {y:AK} {u:Value} {i:Nat} (h:kvs.length<=i):(stored kvs y u).length<=i+1:=by unfold stored;split<;>simp<;>lia
theorem Ha {i0:Nat} {x0:Str} {px:Pos} {hx0:G.names[i0]?=some x0} {hc0:G.comp=false\/G.kinds[i0]?=some .local} {t:Option (CT G)} {kx vx:CE G} {iter:Expr} {sc:Scope} {pos:Pos} (c:Cx F) (k:Nat) (R:da c.A k) {alive:AS->Prop} {xs:List AV} {It:Addr->Nat->Heap->Prop} (S0:MG alive xs It)
 {Q:aG} {X:cC} (hz:xs.length<=1000000) {I D C:Addr} {cl:List (Str×Addr)} (Z:zL c G cl I D C) {l:aO} {s:Shared} (J:CI c G cl I D C alive It l xs.length (Dt D i0 t kx vx alive k Q xs) xs.length s) {env:Env} (henv:env=pp G.scope C cl c.qual none c.cd c.fr):
 codeAny (model Ω.p Ω.w) c.A (.compLoop (.DictComp kx.e vx.e [⟨.Name x0 px,iter,Nr t,0⟩] sc pos) 0 (.ref I) (.ref D) env) (compPost (model Ω.p Ω.w) c.A (aM Ω.b c.all X c.g) none (EP c l Q) (.ref D) C) s:=by
 show codeAny_compLoop_testsD (CI c G cl I D C alive It l xs.length (Dt D i0 t kx vx alive k Q xs)) (fun n s J=>?_) _ J;show yH c S0 Z J (fun i lG σ h h' p e=>aH p fun kvs ep h1 h2 h3=>bQ h1 fun o es h4 h5=>⟨kvs,ep,⟨o,es,e _ h4,h5⟩,h2,h3⟩) (Q:=Q) (X:=X) (fun lG σ h p z=>aH p fun kvs ep h1 h2 h3=>?_) (fun _ z=>z) fun cG i lG σ UB v eA eE hd S p hi own kD close=>?_
 . rw[List.drop_length] at h3;show ae (ke h1 rfl) fun ob h4 h5=>⟨ob,_,h4,h5,h3 D ep z⟩
 show aH p fun kvs ep h1 h2 h3=>?_;show bQ h1 fun oD esD hoD restD=>?_;rw[hd] at h3;rw[<-henv] at eE;show(eF.nameP i0 x0 px hx0 hc0).okE (Q:=fun l'=>l'=lG.set i0 (some (er v))) eA eE S rfl fun UC l₂ S2 el=>?_;subst el;show Bw eA eE R S2 h3 (fun UD Ux S3 h4=>?_) fun UD Ux S3 h4=>?_
 . rw[eM rfl];show kx.okE eA eE R S3 h4 fun kv s₄ Uy S4 h5=>vx.okE eA eE R S4 h5 fun u s₅ σ₅ S5 h6=>?_;show j8 h6 fun y hy al h7=>?_;have kd:=kD _ _ _ S5 _ hoD;show wpAny_dictSet_pairs (y.key hy) (Heap.DictAt.dictOf ⟨oD,esD,kd.1,restD⟩) (fun h₅ hd5 sb=>?_) (by rw[mU];lia);show aw hd5.dictAt fun ep' hd5=>?_;show close _ _ _ _ _ S5 sb.extBut kd.2 al ⟨_,ep',hd5,Du h2,by rw[vw];show h7⟩
 . rw[dr Bool.false_ne_true];have kd:=kD _ _ _ S3 _ hoD;show close _ _ _ _ _ S3 (fun _ _ _ e=>e) kd.2 h4.1 ⟨kvs,ep,⟨oD,esD,kd.1,restD⟩,Nat.le_succ_of_le h2,h4.2⟩
noncomputable def CE.dictcomp (i0:Nat) (px:Pos) (t:Option (CT G)) (kx vx:CE G) (iter:CE F) (sc:Scope) (fr:Option (Nat×Nat×Str)) (pos:Pos) (ci:cE F G sc fr):CE F where
 e:= .DictComp kx.e vx.e [⟨.Name (vp G i0) px,iter.e,Nr t,0⟩] sc pos
 tr:=fun k l σ Q X=>gd (qp G i0) (iter.tr k l σ (fun v Uv=>vG i0 t kx vx k v (iN G fr l) Uv Q) X)
 ok:=fun c k l σ s Q X R S h=>by
  show aL (gh h) fun g h=>?_;have hx0:=zB g;have hc0:=zC g;rw[arm_eval_DictComp];show wpAny_comprehension_free (use:=Option.none) rfl (gU iter.pl _) (pz ci c S).1 ci.kind ci.names (dw (iter.ok c k l σ s _ X R S h) (fun v UB hp=>ae hp fun Uv Uz J=>I0 J.run fun alive xs I al hz UE=>ae I.run fun It S0 start=>?_) fun _ _ e=>e);show start c.A c.all _ UB Uv v _ _ c.handled Uz.outer Uz.rs.hide al rfl fun h' tk it gr=>?_;have fr0:=a7 UB.heap;have S2:St c l Uv {UB with heap:=h'}:=Uz.grown gr;show wpAny_newObj_type ?_ (Nat.zero_le _);show vF ci.nocell ci.kind (ob:={cls:= .type "dict",data:= .dict #[]}) rfl rfl ⟨rfl,rfl⟩ fun C UD hC hns gr2 hob q3=>?_;show GV (yI ci c S0 Uz al gr it hC hns gr2 hob rfl q3) fun Z itn J=>?_;show Sw ((Heap.DictOf.new (knd:=bS Ω.p Ω.w) h').dictAt) fun ep o es ho Us=>?_;have loop:=Ha (X:=X) (px:=px) (hx0:=hx0) (hc0:=hc0) (iter:=iter.e) (sc:=sc) (pos:=pos) c k R S0 hz Z (J (Dt _ i0 t kx vx alive k Q xs) ⟨[],ep,⟨o,es,?_,Us⟩,Nat.le_refl _,UE⟩) (Bx ci c C _)
  . show codeAny_compStart_dict loop (S0.self _ _ _ _ _ _ itn loop)
  . rw[zA _ rfl] at ho;rw[<-ho];show hob
end
set_option tactic.hygienic true
noncomputable section
open MeetsSeq
noncomputable def Dv (sc:Scope) (names:List Str) (kinds:List NameKind) (gs:List GE):Bool:=
 (gs.all fun g=>QX sc g.x)&&((sc.kind== .function)&&decide names.Nodup&&decide (names.length=kinds.length)&&((names.zip kinds).all fun p=>decide (sc.names.lookup p.1=some p.2)&&(p.2== .local || p.2== .cell))&&names.all fun x=>!(x==("__debug__":Str)))
noncomputable def jF (name:Str) (scope:Scope) (names:List Str) (kinds:List NameKind) (comp:Bool) (gs:List GE) (h:Dv scope names kinds gs=true):Fn where
 name:=name
 scope:=scope
 names:=names
 kinds:=kinds
 comp:=comp
 fn:=by
  unfold Dv at h;simp only [nH] at h;show Bi h.2.1.1.1.1
 nd:=by
  unfold Dv at h;simp only [nH] at h;show GH h.2.1.1.1.2
 kind_:=fun i x hx=>by
  unfold Dv at h;simp only [nH] at h;have hl:=GH h.2.1.1.2;show aw (LX.mp hx) fun lt e=>?_;have lt':i<kinds.length:=zo;have hm:(x,kinds[i])∈names.zip kinds:=by
   rw[List.mem_iff_getElem?];show⟨i,by rw[List.getElem?_zip_eq_some];show⟨hx,Bf lt'⟩⟩
  have q:=Di.mp h.2.1.2 _ hm;simp only [nH,decide_eq_true_eq,Mq,Bh] at q;show(Np (kinds[i]) (Bf lt') q.1 q.2)
 nodebug:=fun x hx=>by
  unfold Dv at h;simp only [nH] at h;have q:=Di.mp h.2.2 x hx;simpa using q
 gs:=gs
 gok:=fun g hg=>by
  unfold Dv at h;simp only [nH] at h;show Di.mp h.1 g hg
theorem Qy (W:WW) {a:Addr} {st:Stmt} {q:Str} {df pm:Value} {ca:Addr} {n:Nat} {binds:List Value->List (Str×Value)} {body:List Stmt}
 (hk:(KK Ω.w.params).lookup a=some (oF st q df pm (.ref ca))) (hc:codeIn (KK Ω.w.params) (dF st q df pm (.ref ca)).code (dF st q df pm (.ref ca)).qualname=true) (hb:(dF st q df pm (.ref ca)).body= .stmts body) (hs:(dF st q df pm (.ref ca)).scope=F.scope)
 (hE:∀L,callEnv (dF st q df pm (.ref ca)) L a=pp F.scope L [] (F.name++".<locals>.") (some a) (.ref ca) (some L))
 (hbi:∀(s:Shared) (vv:List Value),(KK Ω.w.params).In s.heap->vv.length=n->BindsTo s (dF st q df pm (.ref ca)) ⟨vv,[]⟩ (binds vv)) (hcell:∀x∈F.scope.names,x.2≠.cell) (hkd:∀kd∈F.kinds,kd= .local)
 (hl:∀vv:List Value,vv.length=n->∀x∈binds vv,F.scope.names.lookup x.1=some .local) (hp:F.scope.isCoroutine=false/\F.scope.isGenerator=false):eP F Ω.w Ω.b a (.ref ca) body n binds:=
 ⟨⟨_,_,W.inK _ _ hk,rfl,codeRec_of W.inK hc,hb,hs,hE,fun s vv kb hn=>hbi s vv (fun a o e=>kb a o (W.inK a o e)) hn⟩,hcell,hkd,hl,hp⟩
theorem MJ (W:WW) {a:Addr} {st:Stmt} {q:Str} {df pm:Value} {ca:Addr} {n:Nat} {binds:List Value->List (Str×Value)} {body:List Stmt}
 (hk:(KK Ω.w.params).lookup a=some (oF st q df pm (.ref ca))) (hc:codeIn (KK Ω.w.params) (dF st q df pm (.ref ca)).code (dF st q df pm (.ref ca)).qualname=true) (hb:(dF st q df pm (.ref ca)).body= .stmts body) (hs:(dF st q df pm (.ref ca)).scope=F.scope)
 (hcl:(dF st q df pm (.ref ca)).closure=[]) (hE:∀L,callEnvC (dF st q df pm (.ref ca)) L a=pp F.scope L (cellsFrom (L+1) F.scope.names []) (F.name++".<locals>.") (some a) (.ref ca) (some L))
 (hbi:∀vv:List Value,vv.length=n->bindArgs (dF st q df pm (.ref ca)) ⟨vv,[]⟩=pure (binds vv)) (hcell:∀(m i:Nat) (x:Str),F.names[i]?=some x->F.kinds[i]?=some .cell->((cellsFrom m F.scope.names []).lookup x).isSome=true)
 (hkd:∀(m:Nat) (vv:List Value),vv.length=n->∀x∈binds vv,F.scope.names.lookup x.1=some .local\/(F.scope.names.lookup x.1=some .cell/\((cellsFrom m F.scope.names []).lookup x.1).isSome=true)) (hp:F.scope.isCoroutine=false/\F.scope.isGenerator=false):ic F Ω.w Ω.b a (.ref ca) body n binds:=
 ⟨⟨_,_,W.inK _ _ hk,rfl,codeRec_of W.inK hc,hb,hs,hcl,hE,hbi⟩,hcell,hkd,hp⟩
noncomputable def fN (F:Fn) (us:List AV):aO:=us.map some++List.replicate (F.names.length-us.length) none
noncomputable abbrev Qz (F:Fn) (vs:List AV) (dv:List Value):aO:=fN F (vs++dv.map er)
theorem dN (us:List AV) (h:us.length<=F.names.length):(fN F us).length=F.names.length:=by simp [fN];lia
theorem pC (us:List AV) (i:Nat):((fN F us)[i]?).join=us[i]?:=by
 unfold fN;rw[List.getElem?_append];split
 . rename_i h;rw[a9] at h;rw[nG,Bf h];rfl
 . rename_i h;rw[a9,Nat.not_lt] at h;rw[List.getElem?_eq_none h,List.getElem?_replicate];split<;>rfl
theorem vH {names:List Str} (nd:names.Nodup):∀(vv:List Value) (i:Nat) (x:Str),names[i]?=some x->(names.zip vv).reverse.lookup x=vv[i]?:=by
 induction names with
 | nil=>intro vv i x h;cases h
 | cons y r ih=>
  intro vv i x h;show aL (GT.mp nd) fun hy hr=>?_;cases vv with
  | nil=>simp
  | cons v vs=>
   rw[List.zip_cons_cons,List.reverse_cons,List.lookup_append];cases i with
   | zero=>
    cases h;have:(r.zip vs).reverse.lookup y=none:=by
     rw[List.lookup_eq_none_iff];intro p hp;have hm:=List.mem_reverse.mp hp;have:=(List.of_mem_zip hm).1;rw[bne_iff_ne];rintro rfl;show hy this
    rw[this];simp [List.lookup_cons]
   | succ i=>
    have h':r[i]?=some x:=h;rw[ih hr vs i x h'];cases q:vs[i]? with
    | some u=>simp [q]
    | none=>
     have ne:(x==y)=false:=by
      rw[xg];rintro rfl;show hy (zz h')
     simp [List.lookup_cons,ne,q]
theorem su (vv:List Value):GW F.names (fN F (vv.map er)) fun x=>(F.names.zip vv).reverse.lookup x:=fun i x hx=>by
 change Option.map er ((F.names.zip vv).reverse.lookup x)=_;rw[pC,vH F.nd vv i x hx,nG]
abbrev CB.K {F:Fn} (x:CS F) (r:CB F):CB F:= .cons x r
theorem af (W:WW) {a:Addr} {cd:Value} {n:Nat} {dv:List Value} {vs:List AV} {σ:AS} {Q:aG} {X:cC} {k:Nat} (B:CB F)
 (D:eP F Ω.w Ω.b a cd B.b n fun vv=>F.names.zip (vv++dv)) (hn:vs.length=n) (hz:n+dv.length<=F.names.length)
 (h:B.tr k (Qz F vs dv) σ (kQ Q) fun _ _=>False):kO (k+1) (.ref a) vs σ Q X:=
 MD W B _ D hn (dN _ zu) (fun vv e=>by rw[<-e,<-pj];show su _) h
theorem yJ {kindOf:Str->Option NameKind} {names:List Str} (nd:names.Nodup):∀(vv:List Value) (m:Str->Option Value) (i:Nat) (x:Str),names[i]?=some x->kindOf x=some .local->bindL kindOf (names.zip vv) m x=(vv[i]?).or (m x):=by
 induction names with
 | nil=>intro vv m i x h;cases h
 | cons y r ih=>
  intro vv m i x h hk;show aL (GT.mp nd) fun hy hr=>?_;cases vv with
  | nil=>simp [bindL]
  | cons v vs=>
   rw[List.zip_cons_cons];unfold bindL;cases i with
   | zero=>
    cases h;have key:∀(r':List Str) (ws:List Value) (m':Str->Option Value),y∉r'->bindL kindOf (r'.zip ws) m' y=m' y:=by
     intro r';induction r' with
     | nil=>intro ws m' _;simp [bindL]
     | cons z r' ih'=>
      intro ws m' hz;cases ws with
      | nil=>simp [bindL]
      | cons u ws=>
       rw[List.zip_cons_cons];unfold bindL;rw[ih' ws _ fun q=>hz (du _ q)];split
       . show dr fun e=>hz (by rw[e];show bJ)
       . rfl
    rw[key r vs _ hy,eM hk,eM rfl];simp
   | succ i=>
    have h':r[i]?=some x:=h;rw[ih hr vs _ i x h' hk];have ne:x≠y:=by rintro rfl;show hy (zz h')
    split
    . change(vs[i]?).or (if x=y then some v else m x)=_;rw[dr ne];simp
    . simp
theorem yK {kindOf:Str->Option NameKind} {names:List Str} (nd:names.Nodup):∀(vv:List Value) (m:Str->Option Value) (i:Nat) (x:Str),names[i]?=some x->kindOf x=some .cell->bindC kindOf (names.zip vv) m x=(vv[i]?).or (m x):=by
 induction names with
 | nil=>intro vv m i x h;cases h
 | cons y r ih=>
  intro vv m i x h hk;show aL (GT.mp nd) fun hy hr=>?_;cases vv with
  | nil=>simp [bindC]
  | cons v vs=>
   rw[List.zip_cons_cons];unfold bindC;cases i with
   | zero=>
    cases h;have key:∀(r':List Str) (ws:List Value) (m':Str->Option Value),y∉r'->bindC kindOf (r'.zip ws) m' y=m' y:=by
     intro r';induction r' with
     | nil=>intro ws m' _;simp [bindC]
     | cons z r' ih'=>
      intro ws m' hz;cases ws with
      | nil=>simp [bindC]
      | cons u ws=>
       rw[List.zip_cons_cons];unfold bindC;rw[ih' ws _ fun q=>hz (du _ q)];split
       . rfl
       . show dr fun e=>hz (by rw[e];show bJ)
    rw[key r vs _ hy,dr (by rw[hk];decide),eM rfl];simp
   | succ i=>
    have h':r[i]?=some x:=h;rw[ih hr vs _ i x h' hk];have ne:x≠y:=by rintro rfl;show hy (zz h')
    split
    . simp
    . change(vs[i]?).or (if x=y then some v else m x)=_;rw[dr ne];simp
theorem sv (W:WW) {a:Addr} {cd:Value} {n:Nat} {vs:List AV} {σ:AS} {Q:aG} {X:cC} {k:Nat} (B:CB F)
 (D:ic F Ω.w Ω.b a cd B.b n fun vv=>F.names.zip vv) (hn:vs.length=n) (hz:n<=F.names.length)
 (h:B.tr k (fN F vs) σ (kQ Q) fun _ _=>False):kO (k+1) (.ref a) vs σ Q X:=
 ME W B _ D hn (dN _ zo) (fun vv e i x kd hx hkd=>by
  show j8 (F.kind_ i x hx) fun kd' hkd' hlk hor=>?_;rw[hkd] at hkd';cases hkd';rw[<-e,pC,nG];rcases hor with rfl | rfl
  . rw[dr zd,yJ F.nd vv _ i x hx hlk];simp
  . rw[eM rfl,yK F.nd vv _ i x hx hlk];simp) h
theorem uz (h:∀kd∈F.kinds,kd= .local) (us:List Value) (x:Str×Value) (hx:x∈F.names.zip us):F.scope.names.lookup x.1=some .local:=by
 obtain⟨i,hi,e⟩:=List.mem_iff_getElem.mp (List.of_mem_zip hx).1;obtain⟨kd,h1,h2,_⟩:=F.kind_ i x.1 (by rw[<-e];show Bf hi);rw[h2,h kd (zz h1)]
theorem fO (W:WW) {a:Addr} {st:Stmt} {q:Str} {df pm:Value} {ca:Addr} {n:Nat} {dv:List Value} {body:List Stmt}
 (hk:(KK Ω.w.params).lookup a=some (oF st q df pm (.ref ca))) (hc:codeIn (KK Ω.w.params) (.ref ca) q=true) (hb:(dF st q df pm (.ref ca)).body= .stmts body) (hs:(dF st q df pm (.ref ca)).scope=F.scope) (hq:F.name=q)
 (hbi:∀(s:Shared) (vv:List Value),(KK Ω.w.params).In s.heap->vv.length=n->BindsTo s (dF st q df pm (.ref ca)) ⟨vv,[]⟩ (F.names.zip (vv++dv)))
 (hall:(F.scope.names.all (fun x=>!(x.2== .cell))&&F.kinds.all (· == .local)&&!F.scope.isCoroutine&&!F.scope.isGenerator)=true) (hf:∃name args body' x1 x2 x3 sc x5 x6 x7,st= .FunctionDef name args body' x1 x2 x3 sc x5 x6 x7):eP F Ω.w Ω.b a (.ref ca) body n fun vv=>F.names.zip (vv++dv):=by
 simp only [nH,Bool.not_eq_true'] at hall;obtain⟨⟨⟨h1,h2⟩,h3⟩,h4⟩:=hall;have hkd:∀kd∈F.kinds,kd= .local:=fun kd hm=>Bi (Di.mp h2 kd hm);obtain⟨name,args,body',x1,x2,x3,sc,x5,x6,x7,rfl⟩:=hf;show Qy W hk hc hb hs (fun L=>?_) hbi (fun x hx e=>?_) hkd (fun vv _ x hx=>uz hkd _ x hx) ⟨h3,h4⟩
 . rw[<-hs,hq];rfl
 . have:=Di.mp h1 x hx;rw[e] at this;cases this
theorem m0 (W:WW) {a:Addr} {st:Stmt} {q:Str} {df pm:Value} {ca:Addr} {n:Nat} {body:List Stmt}
 (hk:(KK Ω.w.params).lookup a=some (oF st q df pm (.ref ca))) (hc:codeIn (KK Ω.w.params) (.ref ca) q=true) (hb:(dF st q df pm (.ref ca)).body= .stmts body) (hs:(dF st q df pm (.ref ca)).scope=F.scope) (hq:F.name=q)
 (hbi:∀vv:List Value,vv.length=n->bindArgs (dF st q df pm (.ref ca)) ⟨vv,[]⟩=pure (F.names.zip vv))
 (hcell:∀(m i:Nat) (x:Str),F.names[i]?=some x->F.kinds[i]?=some .cell->((cellsFrom m F.scope.names []).lookup x).isSome=true)
 (hall:(!F.scope.isCoroutine&&!F.scope.isGenerator)=true) (hf:∃name args body' x1 x2 x3 sc x5 x6 x7,st= .FunctionDef name args body' x1 x2 x3 sc x5 x6 x7):ic F Ω.w Ω.b a (.ref ca) body n fun vv=>F.names.zip vv:=by
 simp only [nH,Bool.not_eq_true'] at hall;obtain⟨name,args,body',x1,x2,x3,sc,x5,x6,x7,rfl⟩:=hf;show MJ W hk hc hb hs rfl (fun L=>?_) hbi hcell (fun m vv _ x hx=>?_) hall
 . rw[<-hs,hq];rfl
 . obtain⟨i,hi,e⟩:=List.mem_iff_getElem.mp (List.of_mem_zip hx).1;have hx':F.names[i]?=some x.1:=by rw[<-e];show Bf hi
   show j8 (F.kind_ i x.1 hx') fun kd h1 h2 h3=>?_;rcases h3 with rfl | rfl
   . show .inl h2
   . show .inr ⟨h2,hcell m i x.1 hx' h1⟩
noncomputable def bg:Nat->Stmt->List Stmt
 | 0,.If _ b _ _=>b
 | 1,.If _ _ o _=>o
 | 0,.For _ _ b _ _=>b
 | 0,.While _ b _ _=>b
 | 0,.Try b _ _ _ _=>b
 | 0,.FunctionDef _ _ b _ _ _ _ _ _ _=>b
 | _,_=>[]
noncomputable def bA (l:List Stmt) (i:Nat):Stmt:=(l[i]?).getD (.Pass ⟨0,0,0,0⟩)
noncomputable def zM:Stmt->Scope
 | .FunctionDef _ _ _ _ _ _ sc _ _ _=>sc
 | _=>⟨.module,[],false,false,[]⟩
noncomputable def CE.bytes (n:LU) (kk:Nat) (pos:Pos):CE F where
 e:= .Constant (.bytes n) kk pos
 tr:=fun _ _ σ Q _=>Q (.bytes n) σ
 ok:=fun _ _ _ σ _ _ _ _ S q=>Constant_bytes (aS σ S.tok q)
end
set_option tactic.hygienic false
noncomputable section
open MeetsSeq
structure ik (k:Nat) (a b c d:AV) (σ:AS) (Q:aG) (X:cC):Prop where
 run:∃T id,Je σ a T/\typeLookup (.type T) "__getitem__"=pure (some (.builtin id))/\∀(u l h t:Value) (sl:Addr) (A:Around) (Up:List Env) (g:Fz) (s:Shared),er u=a->er l=b->er h=c->er t=d->A.handled=none->eD Ω.b Up g->RS Ω.p Ω.w g σ s->s.heap.IsSliceOf sl l h t->
  wpAny (model Ω.p Ω.w) A (getItem u (.ref sl)) (fun r s'=>∃UH,RS Ω.p Ω.w g UH s'/\Q (er r) UH) (aM Ω.b Up X g) s
noncomputable def EF (x:Option (CE F)) (k:Nat) (lc:aO) (σ:AS) (Q:aG) (X:cC):Prop:=match x with
 | none=>Q .none σ
 | some x=>x.tr k lc σ Q X
noncomputable def Jm (x:Option (CE F)):Option Expr:=match x with
 | none=>none
 | some x=>some x.e
theorem Dw (x:Option (CE F)) (c:Cx F) (k:Nat) (lc:aO) (σ:AS) (s:Shared) (Q:aG) (X:cC) (R:da c.A k) (S:St c lc σ s) (h:EF x k lc σ Q X):
 wpAny (model Ω.p Ω.w) c.A (evalPart (Jm x) c.env) (EP c lc Q) (aM Ω.b c.all X c.g) s:=by
 cases x with
 | none=>show cS (aS σ S.tok h)
 | some x=>show x.ok c k lc σ s Q X R S h
theorem Fv (a b c:Option Expr) (p:Pos) (o i:Value):subscripted (.Slice a b c p) false o i=operate (match c with | none=>[i,o] | some _=>[o,i]) (getItem o i):=by cases c<;>rfl
noncomputable def CE.slice (x:CE F) (lo hi st:Option (CE F)) (p pos:Pos):CE F where
 e:= .Subscript x.e (.Slice (Jm lo) (Jm hi) (Jm st) p) pos
 tr:=fun k lc σ Q X=>x.tr k lc σ (fun a Uv=>EF lo k lc Uv (fun b Uw=>EF hi k lc Uw (fun c Ux=>EF st k lc Ux (fun d Uy=>ik k a b c d Uy Q X) X) X) X) X
 ok:=fun c k lc σ s Q X R S h=>Subscript_ (gH (x.ok c k lc σ s _ X R S h) fun u UB Uv Uz UE=>by
  show wpAny_Slice (gH (Dw lo c k lc Uv UB _ X R Uz UE) fun l UC Uw UA UF=>gH (Dw hi c k lc Uw UC _ X R UA UF) fun hh UD Ux S₃ UG=>dw (Dw st c k lc Ux UD _ X R S₃ UG) (fun t s₄ hp=>ae hp fun Uy S₄ J=>aH J.run fun T id h4 h5 h6=>?_) fun _ _ e=>e);have S5:St c lc Uy ({s₄ with heap:=s₄.heap.push {cls:= .type "slice",data:= .fields #[l,hh,t]}}:Shared):=S₄.grown fun b o e=>qo _ e;show Bv (h4.run _ _ _ u S5.outer S5.rs.hide rfl).1 h5 ?_ (Fv ..);show dw (h6 u l hh t _ c.A c.all _ _ rfl rfl rfl rfl c.handled S5.outer S5.rs.hide (Heap.IsSliceOf.new _ _ _ _)) (fun r s' hp=>ae hp fun UH r' q=>(aS UH (S5.after r') q)) fun _ _ e=>e.weak S5.rs.calm.1 fun b o q=>S5.keepG q)
section
theorem lR {B:LU} {b c:AV} {lo hi:Option Int} (hl:∀v,er v=b->IsPart v lo) (hh:∀v,er v=c->IsPart v hi) (hz:B.length<=1000000) (hq:Q (.bytes ((B.drop (lo.elim 0 (clipAt B.length))).take (hi.elim B.length (clipAt B.length)-lo.elim 0 (clipAt B.length)))) σ):ik k (.bytes B) b c .none σ Q X:=by
 show⟨"bytes",_,sp,FB.slot_bytes_getitem.lookup,fun u l h t sl A Up g s hu hb hc hd hH O rs hs=>?_⟩;show aw (cN hu) fun tk hr1=>?_;rw[hr1];rw[dU hd] at hs;show getItem_meets (typeIs_bytes _ _ _) zd FB.slot_bytes_getitem FB.entry_bytes_getitem (FB.args_bytes_getitem_2 _ _) (KBc.meets_slice2 _ tk _ (hl _ hb) (hh _ hc)) ⟨hs,Nat.le_trans (KBc.size_picked_le _ lo hi) (by rw[No,mU];lia),fun t' k'=>(aS σ rs.tok ?_)⟩;rw[KBc.picked_eq];show hq
theorem lS {n:Nat} (v:Value) (h:er v= .int n):IsPart v (some (n:Int)):=by
 show aw (aI h) fun t hr1=>?_;rw[hr1];show .int _ t
theorem yL (v:Value) (h:er v= .none):IsPart v none:=by rw[dU h];show .none
theorem vI (B:LU) (a b:Nat):(B.drop (min a B.length)).take (min b B.length-min a B.length)=(B.drop a).take (b-a):=by
 by_cases h:a<=B.length
 . rw[Nat.min_eq_left h];by_cases h':b<=B.length
   . rw[Nat.min_eq_left h']
   . rw[Nat.min_eq_right zo,List.take_of_length_le zs,List.take_of_length_le zu]
 . rw[List.drop_of_length_le zo,List.drop_of_length_le zo];simp
theorem zN {B:LU} {a b:Nat} (hz:B.length<=1000000) (hq:Q (.bytes ((B.drop a).take (b-a))) σ):ik k (.bytes B) (.int a) (.int b) .none σ Q X:=by
 show lR (lo:=some (a:Int)) (hi:=some (b:Int)) lS lS hz ?_;simp only [Option.elim_some,clipAt_nat,vI];show hq
theorem sw {B:LU} {a:Nat} (hz:B.length<=1000000) (hq:Q (.bytes (B.drop a)) σ):ik k (.bytes B) (.int a) .none .none σ Q X:=by
 show lR (lo:=some (a:Int)) (hi:=none) lS yL hz ?_;simp only [Option.elim_some,Option.elim_none,clipAt_nat];have e:=vI B a B.length;rw[Nat.min_self] at e;rw[e,List.take_of_length_le zs];show hq
theorem sy {B:LU} {b:Nat} (hz:B.length<=1000000) (hq:Q (.bytes (B.take b)) σ):ik k (.bytes B) .none (.int b) .none σ Q X:=by
 show lR (lo:=none) (hi:=some (b:Int)) yL lS hz ?_;simp only [Option.elim_some,Option.elim_none,clipAt_nat];have e:=vI B 0 b;simp only [Nat.zero_min,Nat.sub_zero,List.drop_zero] at e⊢;rw[e];show hq
end
noncomputable def CE.dict1 (x:Str) (kk:Nat) (p1:Pos) (n:Int) (kk':Nat) (p2 pos:Pos):CE F where
 e:= .Dict [some (.Constant (.str x) kk p1)] [.Constant (.int n) kk' p2] pos
 tr:=fun k lc σ Q X=>∀p ep,σ p=Option.none->Q (.ref p) (σ.set p (.dict ep [(.s x,.int n)]))
 ok:=fun c k lc σ s Q X R S h=>by
  show wpAny_Dict_pairs (knd:=bS Ω.p Ω.w) (pairs:=[(eval (.Constant (.str x) kk p1) c.env,do let y<-eval (.Constant (.int n) kk' p2) c.env;standAt pos;pure y)]) rfl zs zs ?_;show evalPairs_cons (wpAny_Constant_str (aJ (wpAny_Constant_int (aJ (wpAny_standAt (cS (evalPairs_nil ?_)))))));show⟨[(.s x,.int n _)],⟨?_,rfl,trivial⟩,Heap.DictOf.new s.heap,fun h' hd sb=>?_⟩
  . simp [bS,AK.is,Value.isStrOf]
  . show aw hd.dictAt fun ep hd=>?_;show ae (ke (xs:=[(.s x,.int n)]) hd rfl) fun ob ho hof=>?_;have fr:=a7 s.heap;have gr:∀b o,s.heap.get? b=some o->h'.get? b=some o:=fun b o e=>sb.extBut b o (Nat.ne_of_lt (va e)) (qo _ e);show(aS _ (S.after (S.rs.hide.new fr gr ho hof)) (h _ ep (S.rs.free_of fr)))
variable {G:Fn}
theorem Sz {α:Type} {l:List α} (h:l.length=0):l=[]:=List.length_eq_zero_iff.mp h
theorem xt {α:Type} {l:List α} (h:l.length=1):∃a,l=[a]:=by
 cases l with
 | nil=>cases h
 | cons a r=>show⟨a,by rw[Sz (Nat.succ.inj h)]⟩
theorem By {α:Type} {l:List α} (h:l.length=2):∃a b,l=[a,b]:=by
 cases l with
 | nil=>cases h
 | cons a r=>obtain⟨b,rfl⟩:=xt (Nat.succ.inj h);show⟨a,b,rfl⟩
theorem Fw {α:Type} {l:List α} (h:l.length=3):∃a b c,l=[a,b,c]:=by
 cases l with
 | nil=>cases h
 | cons a r=>obtain⟨b,c,rfl⟩:=By (Nat.succ.inj h);show⟨a,b,c,rfl⟩
theorem SA {α:Type} {l:List α} (h:l.length=4):∃a b c d,l=[a,b,c,d]:=by
 cases l with
 | nil=>cases h
 | cons a r=>obtain⟨b,c,d,rfl⟩:=Fw (Nat.succ.inj h);show⟨a,b,c,d,rfl⟩
noncomputable def Hb:Stmt->Bool
 | .FunctionDef .. =>true
 | _=>false
theorem jG {st:Stmt} (h:Hb st=true):∃name args body' x1 x2 x3 sc x5 x6 x7,st= .FunctionDef name args body' x1 x2 x3 sc x5 x6 x7:=by
 cases st<;>first | show⟨_,_,_,_,_,_,_,_,_,_,rfl⟩ | show ff h
theorem Jn {ns:List (Nat×Str×Pos)} (h:(ns.all fun n=>decide (F.names[n.1]?=some n.2.1)&&(!F.comp || decide (F.kinds[n.1]?=some .local)))=true):∀n∈ns,F.names[n.1]?=some n.2.1/\(F.comp=false\/F.kinds[n.1]?=some .local):=fun n hn=>by
 have q:=Di.mp h n hn;simp only [nH,decide_eq_true_eq,Mq,Bool.not_eq_true'] at q;show q
theorem ki (env:Env):∀(l:List (Str×NameKind)) (Uq:List (Str×Addr)),(l.all fun p=>!(p.2== .free))=true->
 (forIn l Uq fun(p:Str×NameKind) (cs:List (Str×Addr))=>(if p.2== .free then do let c<-cellOf env p.1;pure (ForInStep.yield ((p.1,c)::cs)) else pure (ForInStep.yield cs):Sem (ForInStep (List (Str×Addr)))))=pure Uq
 | [],Uq,_=>by rw[List.forIn_nil]
 | p::r,Uq,h=>by
  rw[List.all_cons,nH,Bool.not_eq_true'] at h;rw[List.forIn_cons,h.1];simp only [Bool.false_eq_true,if_false,pure_bind];show ki env r Uq h.2
theorem vJ (sc:Scope) (env:Env):closureFor sc env=forIn sc.names [] fun(p:Str×NameKind) (cs:List (Str×Addr))=>(if p.2== .free then do let c<-cellOf env p.1;pure (ForInStep.yield ((p.1,c)::cs)) else pure (ForInStep.yield cs):Sem (ForInStep (List (Str×Addr)))):=by
 delta closureFor
 simp only [bind_pure]
theorem zP {sc:Scope} (h:(sc.names.all fun p=>!(p.2== .free))=true) (env:Env):closureFor sc env=pure []:=by rw[vJ,ki env _ _ h]
theorem qw (env:Env) (x:Str) (ca:Addr) (hc:env.cells.lookup x=some ca):∀(l:List (Str×NameKind)),l.filter (fun p=>p.2== .free)=[(x,.free)]->
 (forIn l [] fun(p:Str×NameKind) (cs:List (Str×Addr))=>(if p.2== .free then do let c<-cellOf env p.1;pure (ForInStep.yield ((p.1,c)::cs)) else pure (ForInStep.yield cs):Sem (ForInStep (List (Str×Addr)))))=pure [(x,ca)]
 | [],h=>by cases h
 | p::r,h=>by
  rw[List.forIn_cons];cases q:(p.2==NameKind.free) with
  | false=>
   rw[Mp,q] at h;simp only [Bool.false_eq_true,if_false,pure_bind] at h⊢;show qw env x ca hc r h
  | true=>
   rw[Mp,q] at h;simp only [if_true] at h⊢;show aL (List.cons.inj h) fun h1 h2=>?_;rw[h1];have e:cellOf env x=pure ca:=by delta cellOf;rw[hc]
   rw[e];simp only [pure_bind];show ki env r _ ?_;rw[Di];intro p hp;cases z:(p.2==NameKind.free) with
   | false=>rfl
   | true=>
    have:p∈r.filter (fun p=>p.2== .free):=List.mem_filter.mpr ⟨hp,z⟩;rw[h2] at this;cases this
theorem Bz {sc:Scope} {x:Str} (h:decide (sc.names.filter (fun p=>p.2== .free)=[(x,.free)])=true) (env:Env) (ca:Addr) (hc:env.cells.lookup x=some ca):closureFor sc env=pure [(x,ca)]:=by
 rw[vJ,qw env x ca hc _ (GH h)]
noncomputable def vb (F G:Fn) (sc:Scope):Bool:=G.comp&&decide (relabel sc {scope:=F.scope,locals:=0,globals:=0,cells:=[]}=G.scope)&&(sc.kind== .function)&&(sc.names.all fun p=>!(p.2== .cell))&&sc.names.all fun p=>!(p.2== .local) || decide (sc.names.lookup p.1=some .local)
theorem xu {sc:Scope} {e1 e2:Env} (h:e1.scope=e2.scope):relabel sc e1=relabel sc e2:=by
 delta relabel Env.kindOf
 rw[h]
theorem yM {sc:Scope} (h:vb F G sc=true):G.comp=true/\(∀env:Env,env.scope=F.scope->relabel sc env=G.scope)/\sc.kind= .function/\(∀x∈sc.names,x.2≠.cell)/\∀x∈sc.names,x.2= .local->sc.names.lookup x.1=some .local:=by
 delta vb at h
 simp only [nH] at h;obtain⟨⟨⟨⟨h1,h2⟩,h3⟩,h4⟩,h5⟩:=h;show⟨h1,fun env e=>(xu (e2:={scope:=F.scope,locals:=0,globals:=0,cells:=[]}) e).trans (GH h2),Bi h3,fun x hx e=>?_,fun x hx e=>?_⟩
 . have:=Di.mp h4 x hx;rw[e] at this;cases this
 . have:=Di.mp h5 x hx;rw[e] at this;simpa using this
theorem kj {sc:Scope} (h:vb F G sc=true) (h':((sc.names.all fun p=>!(p.2== .free))&&G.kinds.all (· == .local))=true):cE F G sc none:=by
 show Qm (yM h) fun a b c d e=>?_;rw[nH] at h';show⟨a,b,c,d,e,zP h'.1,fun kd hk=>Bi (Di.mp h'.2 kd hk)⟩
noncomputable def Hc (F G:Fn) (sc:Scope) (i j:Nat) (x:Str):Bool:=decide (F.names[i]?=some x)&&decide (F.kinds[i]?=some .cell)&&decide (G.names[j]?=some x)&&decide (G.kinds[j]?=some .cell)&&(G.kinds.eraseIdx j).all (· == .local)
theorem qx {sc:Scope} {i j:Nat} {x:Str} (h:vb F G sc=true) (h':decide (sc.names.filter (fun p=>p.2== .free)=[(x,.free)])=true) (h2:Hc F G sc i j x=true):cE F G sc (some (i,j,x)):=by
 show Qm (yM h) fun a b c d e=>?_
 delta Hc at h2
 simp only [nH,decide_eq_true_eq] at h2;obtain⟨⟨⟨⟨q1,q2⟩,q3⟩,q4⟩,q5⟩:=h2;show⟨a,b,c,d,e,q1,q2,q3,q4,fun env ca hc=>Bz h' env ca hc,fun j' kd hne hk=>?_⟩;have hm:kd∈G.kinds.eraseIdx j:=by
  rw[List.mem_eraseIdx_iff_getElem?];show⟨j',hne,hk⟩
 show Bi (Di.mp q5 kd hm)
theorem yN (h':((F.names.zip F.kinds).all fun p=>!(p.2== .cell) || F.scope.names.any fun q=>decide (q=(p.1,.cell)))=true):
 ∀(m i:Nat) (y:Str),F.names[i]?=some y->F.kinds[i]?=some .cell->((cellsFrom m F.scope.names []).lookup y).isSome=true:=by
 have key:∀(l:List (Str×NameKind)) (y:Str) (m:Nat) (Uq:List (Str×Addr)),((y,NameKind.cell)∈l\/(Uq.lookup y).isSome=true)->((cellsFrom m l Uq).lookup y).isSome=true:=by
  intro l y;induction l with
  | nil=>
   intro m Uq h;rcases h with h | h
   . cases h
   . show h
  | cons p r ih=>
   intro m Uq h;obtain⟨n,kd⟩:=p;unfold cellsFrom;have keep:(Uq.lookup y).isSome=true->(((n,m)::Uq).lookup y).isSome=true:=fun z=>by
    rw[List.lookup_cons];split
    . rfl
    . show z
   cases q:(kd==NameKind.cell) with
   | true=>
    rw[eM rfl];show ih _ _ ?_;rcases h with h | h
    . rcases GU.mp h with e | h
      . cases e;show .inr zs
      . show .inl h
    . show .inr (keep h)
   | false=>
    rw[dr Bool.false_ne_true];show ih _ _ ?_;rcases h with h | h
    . rcases GU.mp h with e | h
      . cases e;cases q
      . show .inl h
    . show .inr h
 intro m i y hy hk;have hm:(y,NameKind.cell)∈F.names.zip F.kinds:=by
  rw[List.mem_iff_getElem?];show⟨i,by rw[List.getElem?_zip_eq_some];show⟨hy,hk⟩⟩
 have q:=Di.mp h' _ hm;rw[Mq] at q;rcases q with q | q
 . cases q
 . show ae (Bn.mp q) fun p hp e=>?_;rw[GH e] at hp;show key _ y m [] (.inl hp)
noncomputable def Hd:Stmt->Arguments
 | .FunctionDef _ args _ _ _ _ _ _ _ _=>args
 | _=>⟨[],[],none,[],[],none,[]⟩
theorem im {P:Params} {s:Shared} (X:(KK P).In s.heap) {st:Stmt} {q:Str} {df pm cd:Value} {T:Addr} {items:List Value} {ps:List Arg} {args:Args} {binds:List (Str×Value)} (hT:(KK P).lookup T=some (oT 0 items)) (hdf:df= .ref T) (hf:Hb st=true)
 (hp:Hd st=⟨[],ps,none,[],[],none,(Hd st).defaults⟩)
 (h:∀fd:FuncData,fd.params=⟨[],ps,none,[],[],none,(Hd st).defaults⟩->fd.kwdefaults= .none->∃k,bindArgs fd args=seqItems? fd.defaults>>=k/\k (some items.toArray)=pure binds):BindsTo s (dF st q df pm cd) args binds:=by
 obtain⟨name,a,body,x1,x2,x3,sc,x5,x6,x7,rfl⟩:=jG hf;show ae (h (dF (.FunctionDef name a body x1 x2 x3 sc x5 x6 x7) q df pm cd) hp rfl) fun k h1 h2=>?_;show binds_K X hdf hT rfl h1 h2
noncomputable def He:Stmt->ExceptHandler
 | .Try _ (h::_) _ _ _=>h
 | _=> .ExceptHandler none none [] ⟨0,0,0,0⟩
noncomputable def CS.try_ (B:CB F) (h:ExceptHandler) (pos:Pos):CS F where
 b:= .Try B.b [h] [] [] pos
 tr:=fun k l σ Q X=>B.tr k l σ Q fun _ _=>False
 ok:=fun c k l σ s Q X R S hh=>wpAny_Try_except (dw (B.ok c k l σ s _ _ R S hh) (fun f UB hp=>eg hp fun f' l₁ Uv e Uz UE=>by
  cases f<;>cases e
  . show wpAny_execs_nil (xh _ l₁ Uv rfl Uz UE)
  . show(xh _ l₁ Uv rfl Uz UE)
  . show(xh _ l₁ Uv rfl Uz UE)
  . show(xh _ l₁ Uv rfl Uz UE)) fun _ _ e=>(aN e).elim)
end
noncomputable section
open MeetsSeq
noncomputable def z (n:Nat):Pos:=⟨n/22500,n/150%150,n/22500,n%150⟩
noncomputable abbrev GL (x:Str) (v:Value):Prop:=∀P,nsIn (KK P) mainGlobals x=some (some v)
noncomputable abbrev GB (x:Str) (v:Value):Prop:=(((∀P,nsIn (KK P) mainGlobals x=some none)/\bootBuiltins x=some v)/\x≠"__name__")/\∀w,bw w (er v)
noncomputable abbrev GC (x:Str) (v:Value):Prop:=GL x v/\∀w,bw w (er v)
theorem mL {x:Str} {u:Value} (h:∀P,nsIn (KK P) mainGlobals x=some (some u):=by intro;kernel_rfl):GL x u:=h
theorem mC {x:Str} {a:Addr} (h:∀P,nsIn (KK P) mainGlobals x=some (some (.ref a)):=by intro;kernel_rfl) (k:∀P,keepIn (KK P) (.ref a)=true:=by intro;kernel_rfl):GC x (.ref a):=⟨h,fun w=>k w.params⟩
theorem mB {x:Str} {u:Value} (h:∀P,nsIn (KK P) mainGlobals x=some none:=by intro;kernel_rfl) (k:bootBuiltins x=some u:=by kernel_rfl) (n:x≠"__name__":=by decide) (c:∀w,bw w (er u):=by show fun _=>trivial):GB x u:=⟨⟨⟨h,k⟩,n⟩,c⟩
noncomputable def gE {x:Str} {u:Value} (h:GL x u):GE:=⟨x,u,.inl h,false,nofun⟩
noncomputable def gC {x:Str} {u:Value} (h:GC x u):GE:=⟨x,u,.inl h.1,true,fun _=>h.2⟩
noncomputable def gB {x:Str} {u:Value} (h:GB x u):GE:=⟨x,u,.inr h.1,true,fun _=>h.2⟩
noncomputable def Nt (F:Fn) (i:Nat):Str:=match F.gs[i]? with
 | some g=>g.x
 | none=>""
theorem zQ {i:Nat} {g:GE} (h:F.gs[i]?=some g) (p:Pos):∃f:CE F,f.e= .Name (Nt F i) p/\∀k lc σ Q X,f.tr k lc σ Q X=Q (er g.u) σ:=by
 have hk:=F.gok g (zz h);have e:Nt F i=g.x:=by unfold Nt;rw[h]
 rw[e];rcases g.v with v | v
 . show⟨.glob g.x g.u p (Qs hk) (Qt hk) (v _),rfl,fun _ _ _ _ _=>rfl⟩
 . show⟨.built g.x g.u p (Qs hk) (Qt hk) (v.1.1 _) v.1.2 v.2,rfl,fun _ _ _ _ _=>rfl⟩
namespace CE
noncomputable def v (i n:Nat):CE F where
 e:= .Name (vp F i) (z n)
 tr:=fun _ l σ Q _=>I5 l i fun v=>Q v σ
 ok:=fun c k l σ s Q X R S h=>by
  have hx:F.names[i]?=some (vp F i):=by
   show ae (ED h) fun v hv _=>?_;have lt:i<F.names.length:=by
    rw[<-S.len];show Nat.lt_of_not_le fun q=>?_;rw[List.getElem?_eq_none q] at hv;cases hv
   unfold vp;rw[Bf lt];rfl
  show(loc i (vp F i) (z n) hx).ok c k l σ s Q X R S h
noncomputable def i (m:Int) (n:Nat):CE F:=int m 0 (z n)
noncomputable def s (x:Str) (n:Nat):CE F:=str x 0 (z n)
noncomputable def o (n:Nat):CE F:=none 0 (z n)
noncomputable def g (i n:Nat):CE F where
 e:= .Name (Nt F i) (z n)
 tr:=fun _ _ σ Q _=>match F.gs[i]? with
  | some g=>Q (er g.u) σ
  | Option.none=>False
 ok:=fun c k lc σ s Q X R S h=>by
  cases q:F.gs[i]? with
  | none=>rw[q] at h;show h.elim
  | some g=>
   rw[q] at h;show ae (zQ q (z n)) fun f e hv=>?_;rw[<-e];show f.ok c k lc σ s Q X R S (by rw[hv];show h)
noncomputable def c (i n:Nat) (xs:List (CE F)) (m:Nat):CE F where
 e:= .Call (.Name (Nt F i) (z n)) (xs.map (·.e)) [] (z m)
 tr:=fun k lc σ Q X=>match F.gs[i]? with
  | some g=>(match g.cb with
   | true=>argsTr xs k lc σ (kL k (er g.u) Q X) X
   | false=>bw Ω.w (er g.u)/\argsTr xs k lc σ (kL k (er g.u) Q X) X)
  | Option.none=>False
 ok:=fun c k lc σ s Q X R S h=>by
  cases q:F.gs[i]? with
  | none=>rw[q] at h;show h.elim
  | some g=>
   rw[q] at h;show ae (zQ q (z n)) fun f e hv=>?_;show(call f (Nt F i) (z n) e xs (z m)).ok c k lc σ s Q X R S ?_;change f.tr k lc σ _ X;rw[hv];cases b:g.cb with
   | true=>simp only [b] at h;show⟨g.cl b _,h⟩
   | false=>simp only [b] at h;show h
noncomputable def m (x:Str) (o:CE F) (n m:Nat) (xs:List (CE F)):CE F:=methd x o (z n) (z m) xs
noncomputable def u (x y:CE F) (n:Nat):CE F:=sub x y (z n)
noncomputable def q (x:CE F) (op:CmpOp) (y:CE F) (n:Nat):CE F:=cmp x op y (z n)
noncomputable def r (x:CE F) (op:Operator) (y:CE F) (n:Nat):CE F:=bin x op y (z n)
noncomputable def t (n:Nat) (xs:List (CE F)):CE F:=tup (z n) 0 xs
noncomputable def l (n:Nat) (xs:List (CE F)):CE F:=list (z n) xs
end CE
namespace CT
noncomputable def q (x:CE F) (op:CmpOp) (y:CE F) (n:Nat):CT F:=cmp x op y (z n)
end CT
namespace CS
noncomputable def a (i:Nat) (x:CE F) (n m:Nat):CS F where
 b:= .Assign [.Name (vp F i) (z n)] x.e (z m)
 tr:=fun k l σ Q X=>gd (qp F i&&MB x.e (z n)) (x.tr k l σ (kA i l Q) X)
 ok:=fun c k l σ s Q X R S h=>by
  show aL (gh h) fun g h=>?_;rw[nH] at g;show(assign i (vp F i) x (z n) (z m) (zB g.1) (zC g.1) (Dn g.2 _)).ok c k l σ s Q X R S h
noncomputable def t (x:CE F) (n:Nat):CS F:=ret x (z n)
end CS
noncomputable def bZ (q:Str) (st:Stmt) (ns:List Str) (gs:List GE) (h:Dv (zM st) ns (ns.map fun _=> .local) gs=true:=by kernel_rfl):Fn:=jF q (zM st) ns (ns.map fun _=> .local) false gs h
noncomputable abbrev DT (F:Fn) (a c n:Nat) (B:CB F):Prop:=∀(W:WW),eP F Ω.w Ω.b a (.ref c) (B).b n fun vv=>F.names.zip (vv++[])
noncomputable def MK:Nat->(List Value->Prop)->Prop
 | 0,P=>P []
 | n+1,P=>∀v,MK n fun l=>P (v::l)
theorem Jo {n:Nat} {P:List Value->Prop} (h:MK n P):∀vv:List Value,vv.length=n->P vv:=by
 induction n generalizing P with
 | zero=>intro vv e;cases vv with
  | nil=>show h
  | cons _ _=>cases e
 | succ n ih=>intro vv e;cases vv with
  | nil=>cases e
  | cons v l=>show ih (h v) l (Nat.succ.inj e)
theorem dm {F:Fn} {a c n:Nat} {B:CB F} (st:Stmt) (pm:Value) (hk:∀P,(KK P).lookup a=some (oF st F.name .none pm (.ref c)):=by(intro P;kernel_rfl)) (hc:∀P,codeIn (KK P) (.ref c) F.name=true:=by(intro P;kernel_rfl))
 (hb:(dF st F.name .none pm (.ref c)).body= .stmts (B).b:=by kernel_rfl) (hs:(dF st F.name .none pm (.ref c)).scope=F.scope:=by kernel_rfl)
 (hbi:MK n fun vv=>bindArgs (dF st F.name .none pm (.ref c)) ⟨vv,[]⟩=pure (F.names.zip (vv++[])):=by(repeat intro _);change _=_;kernel_rfl)
 (hall:(F.scope.names.all (fun x=>!(x.2== .cell))&&F.kinds.all (· == .local)&&!F.scope.isCoroutine&&!F.scope.isGenerator)=true:=by kernel_rfl) (hf:Hb st=true:=by kernel_rfl):DT F a c n B:=
 fun W=>fO W (hk _) (hc _) hb hs rfl (fun s vv _ hn=>BindsTo.of_eq (Jo hbi vv hn)) hall (jG hf)
end
set_option tactic.hygienic true
noncomputable section
open MeetsSeq
set_option maxRecDepth 100000
theorem Dx:GL "COMMENT" (.int 37 308):=mL
theorem xv:GL "DELIMITERS" (.ref 87):=mL
theorem qy:GL "LINE_FEED" (.int 10 304):=mL
theorem km:GL "MOST_FIGURES_cursor" (.int 20 310):=mL
theorem yO:GL "RETURN" (.int 13 306):=mL
theorem BA:GL "WHITE" (.ref 86):=mL
theorem bO:GB "len" (.builtin "len"):=mB
theorem ML:GB "min" (.builtin "min"):=mB
theorem gV:GC "is_figure" (.ref 108):=mC
theorem oi:GC "is_regular" (.ref 101):=mC
def qz:Fn:=bZ "is_regular" (tF 14) ["code"] [gE BA,gE xv]
def kn:CB qz:= .K (.t (.allv .And [(.q (.v 0 676665) .GtE (.i 0 677870) 676670),(.q (.v 0 678779) .NotIn (.g 0 680592) 678792),(.q (.v 0 682252) .NotIn (.g 1 684070) 682270)] (z 676721)) 675671) .nil
theorem qA:DT qz 101 100 1 kn:=dm (tF 14) mT
def tD:Fn:=bZ "is_figure" (tF 15) ["code"] []
def tE:CB tD:= .K (.t (.chain (.i 48 721663) (z 721677) .LtE .LtE (.v 0 722571) (.i 57 723777)) 720627) .nil
theorem BB:DT tD 108 107 1 tE:=dm (tF 15) mT
def aU:Fn:=bZ "Cursor.__init__" (tM 16 0) ["self","data","at","end"] [gB bO,gB ML]
def b0:CB aU:= .K (.setattr (.v 1 813024) (.v 0 811212) .data (z 811217) (z 811224)) (.K (.setattr (.v 2 835220) (.v 0 833712) .at (z 833715) (z 833720)) (.K (.setattr (.ifexp (.q (.v 3 859835) .Lt (.i 0 860739) 859839) (.c 0 857872 [(.v 1 858477)] 857878) (.c 1 861798 [(.v 3 862402),(.c 0 863157 [(.v 1 863762)] 863163)] 861814) (z 857914)) (.v 0 856212) .end_ (z 856216) (z 856264)) .nil))
theorem jj:(b0:CB aU).b=bg 0 (tM 16 0):=zk
theorem uA (W:WW):eP aU Ω.w Ω.b 123 (.ref 122) (b0:CB aU).b 2 fun vv=>aU.names.zip (vv++[(.int 0 345),(.int (-1) 347)]):=
 fO (st:=tM 16 0) (q:="Cursor.__init__") (df:=(.ref 116)) (pm:=mT) W zk zk (by rw[jj];kernel_rfl) zk rfl (fun s vv X hn=>by obtain⟨v0,v1,rfl⟩:=By hn;show im X (T:=116) (items:=[(.int 0 345),(.int (-1) 347)]) (ps:=[⟨"self",none,(z 790071)⟩,⟨"data",none,(z 790977)⟩,⟨"at",none,(z 791881)⟩,⟨"end",none,(z 792788)⟩]) zk rfl zk zk (fun fd hp hk=>by obtain⟨⟩:=fd;cases hp;cases hk;show⟨_,rfl,rfl⟩)) zk (jG zk)
theorem uB (W:WW):eP aU Ω.w Ω.b 123 (.ref 122) (b0:CB aU).b 3 fun vv=>aU.names.zip (vv++[(.int (-1) 347)]):=
 fO (st:=tM 16 0) (q:="Cursor.__init__") (df:=(.ref 116)) (pm:=mT) W zk zk (by rw[jj];kernel_rfl) zk rfl (fun s vv X hn=>by obtain⟨v0,v1,v2,rfl⟩:=Fw hn;show im X (T:=116) (items:=[(.int 0 345),(.int (-1) 347)]) (ps:=[⟨"self",none,(z 790071)⟩,⟨"data",none,(z 790977)⟩,⟨"at",none,(z 791881)⟩,⟨"end",none,(z 792788)⟩]) zk rfl zk zk (fun fd hp hk=>by obtain⟨⟩:=fd;cases hp;cases hk;show⟨_,rfl,rfl⟩)) zk (jG zk)
theorem uC (W:WW):eP aU Ω.w Ω.b 123 (.ref 122) (b0:CB aU).b 4 fun vv=>aU.names.zip (vv++[]):=
 fO (st:=tM 16 0) (q:="Cursor.__init__") (df:=(.ref 116)) (pm:=mT) W zk zk (by rw[jj];kernel_rfl) zk rfl (fun s vv X hn=>by obtain⟨v0,v1,v2,v3,rfl⟩:=SA hn;show im X (T:=116) (items:=[(.int 0 345),(.int (-1) 347)]) (ps:=[⟨"self",none,(z 790071)⟩,⟨"data",none,(z 790977)⟩,⟨"at",none,(z 791881)⟩,⟨"end",none,(z 792788)⟩]) zk rfl zk zk (fun fd hp hk=>by obtain⟨⟩:=fd;cases hp;cases hk;show⟨_,rfl,rfl⟩)) zk (jG zk)
def jH:Fn:=bZ "Cursor.is_done" (tM 16 1) ["self"] []
def jI:CB jH:= .K (.t (.q (.attr (.v 0 924769) .at (z 924772)) .GtE (.attr (.v 0 926430) .end_ (z 926434)) 924784) 923734) .nil
theorem sz:DT jH 130 129 1 jI:=dm (tM 16 1) mT
def dO:Fn:=bZ "Cursor.peek" (tM 16 2) ["self","ahead","spot"] []
def jk:CB dO:= .K (.a 2 (.r (.attr (.v 0 992269) .at (z 992272)) .Add (.v 1 993780) 992280) 991212 991230) (.K (.t (.ifexp (.q (.v 2 1017638) .Lt (.attr (.v 0 1018695) .end_ (z 1018699)) 1017649) (.u (.attr (.v 0 1014769) .data (z 1014774)) (.v 2 1016279) 1014780) (.neg 1 0 (z 1020807) (z 1020957)) (z 1014807)) 1013757) .nil)
theorem xw:(jk:CB dO).b=bg 0 (tM 16 2):=zk
theorem xx (W:WW):eP dO Ω.w Ω.b 138 (.ref 137) (jk:CB dO).b 1 fun vv=>dO.names.zip (vv++[(.int 0 365)]):=
 fO (st:=tM 16 2) (q:="Cursor.peek") (df:=(.ref 131)) (pm:=mT) W zk zk (by rw[xw];kernel_rfl) zk rfl (fun s vv X hn=>by obtain⟨v0,rfl⟩:=xt hn;show im X (T:=131) (items:=[(.int 0 365)]) (ps:=[⟨"self",none,(z 969467)⟩,⟨"ahead",none,(z 970374)⟩]) zk rfl zk zk (fun fd hp hk=>by obtain⟨⟩:=fd;cases hp;cases hk;show⟨_,rfl,rfl⟩)) zk (jG zk)
def oj:Fn:=bZ "Cursor.take" (tM 16 3) ["self","code"] []
def om:CB oj:= .K (.ite (.q (.attr (.v 0 1081665) .at (z 1081668)) .GtE (.attr (.v 0 1083326) .end_ (z 1083330)) 1081680) (.K (.t (.neg 1 0 (z 1105371) (z 1105521)) 1104321) .nil) .nil ⟨48,8,49,21⟩) (.K (.a 1 (.u (.attr (.v 0 1127269) .data (z 1127274)) (.attr (.v 0 1128779) .at (z 1128782)) 1127283) 1126212 1126233) (.K (.setattr (.r (.attr (.v 0 1150222) .at (z 1150225)) .Add (.i 1 1151729) 1150229) (.v 0 1148712) .at (z 1148715) (z 1148729)) (.K (.t (.v 1 1172269) 1171219) .nil)))
theorem xy:DT oj 145 144 1 om:=dm (tM 16 3) mT
def kU:Fn:=bZ "Cursor.starts" (tM 16 4) ["self","word"] [gB bO]
def kW:CB kU:= .K (.t (.allv .And [(.q (.r (.attr (.v 0 1239769) .at (z 1239772)) .Add (.c 0 1241278 [(.v 1 1241883)] 1241284) 1239784) .LtE (.attr (.v 0 1243242) .end_ (z 1243246)) 1239796),(.q (.slice (.attr (.v 0 1245205) .data (z 1245210)) (some (.attr (.v 0 1246715) .at (z 1246718))) (some (.r (.attr (.v 0 1247923) .at (z 1247926)) .Add (.c 0 1249432 [(.v 1 1250037)] 1249438) 1247938)) none (z 1246738) (z 1245239)) .Eq (.v 1 1251547) 1245247)] (z 1239847)) 1238797) .nil
theorem uD:DT kU 152 151 2 kW:=dm (tM 16 4) mT
def on:Fn:=bZ "Cursor.skip" (tM 16 5) ["self","word"] [gB bO]
def oo:CB on:= .K (.ite (.not (.val (.m "starts" (.v 0 1307269) 1307276 1307282 [(.v 1 1309081)])) (z 1306682)) (.K (.t (.bool false 0 (z 1330374)) 1329324) .nil) .nil ⟨58,8,59,24⟩) (.K (.setattr (.r (.attr (.v 0 1352722) .at (z 1352725)) .Add (.c 0 1354231 [(.v 1 1354836)] 1354237) 1352737) (.v 0 1351212) .at (z 1351215) (z 1351237)) (.K (.t (.bool true 0 (z 1374769)) 1373719) .nil))
theorem xz:DT on 159 158 2 oo:=dm (tM 16 5) mT
def ba:Fn:=bZ "Cursor.skip_white" (tM 16 6) ["self","code"] [gE Dx,gE qy,gE yO,gE BA]
def gj:CT ba:=(.q (.attr (.v 0 1442118) .at (z 1442121)) .Lt (.attr (.v 0 1443628) .end_ (z 1443632)) 1442132)
def lT:CT ba:=(.all .And [(.q (.attr (.v 0 1510826) .at (z 1510829)) .Lt (.attr (.v 0 1512336) .end_ (z 1512340)) 1510840),(.q (.u (.attr (.v 0 1514299) .data (z 1514304)) (.attr (.v 0 1515809) .at (z 1515812)) 1514313) .NotIn (.t 1518240 [(.g 1 1518381),(.g 2 1520039)]) 1514340)] (z 1510890))
def lU:CB ba:= .K (.setattr (.r (.attr (.v 0 1534534) .at (z 1534537)) .Add (.i 1 1536041) 1534541) (.v 0 1533024) .at (z 1533027) (z 1533041)) .nil
def gk:CB ba:= .K (.a 1 (.u (.attr (.v 0 1465373) .data (z 1465378)) (.attr (.v 0 1466883) .at (z 1466886)) 1465387) 1464316 1464337) (.K (.ite (.q (.v 1 1487269) .Eq (.g 0 1488480) 1487280) (.K (.while_ lT lU ⟨67,16,68,41⟩) .nil) (.K (.ite (.q (.v 1 1555071) .In (.g 3 1556280) 1555080) (.K (.setattr (.r (.attr (.v 0 1578930) .at (z 1578933)) .Add (.i 1 1580437) 1578937) (.v 0 1577420) .at (z 1577423) (z 1577437)) .nil) (.K (.ret0 (z 1622422)) .nil) ⟨69,12,72,22⟩) .nil) ⟨66,12,72,22⟩) .nil)
def gK:CB ba:= .K (.while_ gj gk ⟨64,8,72,22⟩) .nil
theorem nM:DT ba 166 165 1 gK:=dm (tM 16 6) mT
def bP:Fn:=bZ "Cursor.take_regular" (tM 16 7) ["self","first"] [gC oi]
def eS:CT bP:=(.all .And [(.q (.attr (.v 0 1712118) .at (z 1712121)) .Lt (.attr (.v 0 1713628) .end_ (z 1713632)) 1712132),(.val (.c 0 1715597 [(.u (.attr (.v 0 1717252) .data (z 1717257)) (.attr (.v 0 1718762) .at (z 1718765)) 1717266)] 1715617))] (z 1712167))
def eV:CB bP:= .K (.setattr (.r (.attr (.v 0 1735826) .at (z 1735829)) .Add (.i 1 1737333) 1735833) (.v 0 1734316) .at (z 1734319) (z 1734333)) .nil
def fG:CB bP:= .K (.a 1 (.attr (.v 0 1689920) .at (z 1689923)) 1688713 1688723) (.K (.while_ eS eV ⟨76,8,77,33⟩) (.K (.t (.slice (.attr (.v 0 1757269) .data (z 1757274)) (some (.v 1 1758780)) (some (.attr (.v 0 1759685) .at (z 1759688))) none (z 1758788) (z 1757289)) 1756239) .nil))
theorem lI:DT bP 173 172 1 fG:=dm (tM 16 7) mT
def eW:Fn:=bZ "Cursor.skip_line_end" (tM 16 8) ["self"] [gE yO,gE qy]
def eX:CB eW:= .K (.ite (.q (.m "peek" (.v 0 1824165) 1824170 1824172 []) .Eq (.g 0 1826432) 1824182) (.K (.setattr (.r (.attr (.v 0 1848326) .at (z 1848329)) .Add (.i 1 1849833) 1848333) (.v 0 1846816) .at (z 1846819) (z 1846833)) (.K (.ite (.q (.m "peek" (.v 0 1869769) 1869774 1869776 []) .Eq (.g 1 1872039) 1869789) (.K (.setattr (.r (.attr (.v 0 1893930) .at (z 1893933)) .Add (.i 1 1895437) 1893937) (.v 0 1892420) .at (z 1892423) (z 1892437)) .nil) .nil ⟨83,12,84,37⟩) (.K (.t (.bool true 0 (z 1915373)) 1914323) .nil))) .nil ⟨81,8,85,23⟩) (.K (.ite (.q (.m "peek" (.v 0 1936665) 1936670 1936672 []) .Eq (.g 1 1938935) 1936685) (.K (.setattr (.r (.attr (.v 0 1960826) .at (z 1960829)) .Add (.i 1 1962333) 1960833) (.v 0 1959316) .at (z 1959319) (z 1959333)) (.K (.t (.bool true 0 (z 1982873)) 1981823) .nil)) .nil ⟨86,8,88,23⟩) (.K (.t (.bool false 0 (z 2004770)) 2003720) .nil))
theorem ko:DT eW 180 179 1 eX:=dm (tM 16 8) mT
def dX:Fn:=bZ "Cursor.number" (tM 16 10) ["self","first","number"] [gC gV,gE km]
def jJ:CT dX:=(.val (.c 0 2184623 [(.m "peek" (.v 0 2186128) 2186133 2186135 [])] 2184636))
def jK:CB dX:= .K (.a 2 (.r (.r (.r (.v 2 2208177) .Mult (.i 10 2209532) 2208182) .Add (.m "take" (.v 0 2210289) 2210294 2210296 []) 2208196) .Sub (.i 48 2212401) 2208201) 2206818 2206851) .nil
def kX:CB dX:= .K (.a 1 (.attr (.v 0 2139920) .at (z 2139923)) 2138713 2138723) (.K (.a 2 (.i 0 2162568) 2161214 2161218) (.K (.while_ jJ jK ⟨97,8,98,51⟩) (.K (.ite (.all .Or [(.q (.attr (.v 0 2229165) .at (z 2229168)) .Eq (.v 1 2230827) 2229177),(.q (.r (.attr (.v 0 2232185) .at (z 2232188)) .Sub (.v 1 2233696) 2232196) .Gt (.g 1 2234918) 2232218)] (z 2229218)) (.K (.setattr (.v 1 2253327) (.v 0 2251816) .at (z 2251819) (z 2251827)) (.K (.t (.o 2275373) 2274323) .nil)) .nil ⟨99,8,101,23⟩) (.K (.t (.v 2 2297271) 2296221) .nil))))
theorem uE:DT dX 194 193 1 kX:=dm (tM 16 10) mT
def io:Fn:=bZ "Cursor.find_last" (tM 16 12) ["self","word"] []
def ip:CB io:= .K (.t (.m "rfind" (.attr (.v 0 2432269) .data (z 2432274)) 2432280 2432299 [(.v 1 2434685),(.i 0 2435588),(.attr (.v 0 2436044) .end_ (z 2436048))]) 2431249) .nil
theorem pD:DT io 208 207 2 ip:=dm (tM 16 12) mT
end
set_option tactic.hygienic false
noncomputable section
open MeetsSeq
theorem vc {vs:List Value} {ns:List Int} (h:vs.map er=ns.map .int):IntsAre vs ns:=by
 induction vs generalizing ns with
 | nil=>
  cases ns with
  | nil=>show .nil
  | cons _ _=>cases h
 | cons v vs ih=>
  cases ns with
  | nil=>cases h
  | cons n ns=>
   show aL (List.cons.inj h) fun h1 h2=>?_;show aw (aI h1) fun t hr1=>?_;rw[hr1];show .cons n t (ih h2)
theorem Jp {vs:List Value} {ns:List Int} (h:IntsAre vs ns):vs.map er=ns.map .int:=by
 induction h with
 | nil=>rfl
 | cons n t _ ih=>rw[dI,dI,ih];rfl
theorem zR {vs:List Value} {ns:List Str} (h:vs.map er=ns.map .str):StrsAre vs ns:=by
 induction vs generalizing ns with
 | nil=>
  cases ns with
  | nil=>show .nil
  | cons _ _=>cases h
 | cons v vs ih=>
  cases ns with
  | nil=>cases h
  | cons n ns=>
   show aL (List.cons.inj h) fun h1 h2=>?_;show aw (db h1) fun t hr1=>?_;rw[hr1];show .cons n t (ih h2)
theorem fP {p:Addr} {ns:List Int} {n:Int} (h:tu Ω σ p (.tup (ns.map .int))) (hq:Q (.bool (ns.any (· ==n))) σ):cj k (compareOp .In) (.int n) (.ref p) σ Q X:=by
 show⟨fun y u hy hu=>⟨fun A Up g s hA hH R O rs=>?_⟩⟩;rw[ah hu];show aw (aI hy) fun t hr1=>?_;rw[hr1];show bQ (cu rs O h) fun vs m hl he=>?_;show in_tuple_ints ⟨_,hl,rfl,_,rfl⟩ (vc he) (aS σ rs.tok hq)
theorem oq {p:Addr} {ns:List Int} {n:Int} (h:tu Ω σ p (.tup (ns.map .int))) (hq:Q (.bool (!(ns.any (· ==n)))) σ):cj k (compareOp .NotIn) (.int n) (.ref p) σ Q X:=by
 show⟨fun y u hy hu=>⟨fun A Up g s hA hH R O rs=>?_⟩⟩;rw[ah hu];show aw (aI hy) fun t hr1=>?_;rw[hr1];show bQ (cu rs O h) fun vs m hl he=>?_;show notin_tuple_ints ⟨_,hl,rfl,_,rfl⟩ (vc he) (aS σ rs.tok hq)
theorem ot {p:Addr} {ns:List Str} {n:Str} (h:tu Ω σ p (.tup (ns.map .str))) (hq:Q (.bool (!(ns.any (· ==n)))) σ):cj k (compareOp .NotIn) (.str n) (.ref p) σ Q X:=by
 show⟨fun y u hy hu=>⟨fun A Up g s hA hH R O rs=>?_⟩⟩;rw[ah hu];show aw (db hy) fun t hr1=>?_;rw[hr1];show bQ (cu rs O h) fun vs m hl he=>?_;show notin_tuple_strs ⟨_,hl,rfl,_,rfl⟩ (zR he) (aS σ rs.tok hq)
theorem pF {n:Int} (hq:Q (.int n) σ):aa k (.typ "int") [.int n] σ Q X:=by
 show⟨fun A Up g s fv vv hA hH R O rs hf hv=>?_⟩;rw[eO hf];show ae (xn hv) fun a hr1 ha=>?_;rw[hr1];show aw (aI ha) fun t hr1=>?_;rw[hr1];show call_int_int (aS σ rs.tok hq)
theorem BC {b:Bool} (hq:Q (.int (if b then 1 else 0)) σ):aa k (.typ "int") [.bool b] σ Q X:=by
 show⟨fun A Up g s fv vv hA hH R O rs hf hv=>?_⟩;rw[eO hf];show ae (xn hv) fun a hr1 ha=>?_;rw[hr1];rw[EB ha];show call_int_bool (aS σ rs.tok hq)
theorem MM {n:Int} (hq:Q (.int (if n<0 then-n else n)) σ):aa k (.fn "abs") [.int n] σ Q X:=by
 show⟨fun A Up g s fv vv hA hH R O rs hf hv=>?_⟩;rw[dL hf];show ae (xn hv) fun a hr1 ha=>?_;rw[hr1];show aw (aI ha) fun t hr1=>?_;rw[hr1];show call_abs_int fun u tk=>(aS σ rs.tok hq)
theorem MN {c:Nat} (hq:Q (.int c) σ):aa k (.fn "ord") [.str ⟨#[c]⟩] σ Q X:=by
 show⟨fun A Up g s fv vv hA hH R O rs hf hv=>?_⟩;rw[dL hf];show ae (xn hv) fun a hr1 ha=>?_;rw[hr1];show aw (db ha) fun t hr1=>?_;rw[hr1];show P.ord_of_char (aS σ rs.tok hq)
theorem MO {n:Nat} (h:n<=255) (hq:Q (.str ⟨#[n]⟩) σ):aa k (.fn "chr") [.int n] σ Q X:=by
 show⟨fun A Up g s fv vv hA hH R O rs hf hv=>?_⟩;rw[dL hf];show ae (xn hv) fun a hr1 ha=>?_;rw[hr1];show aw (aI ha) fun t hr1=>?_;rw[hr1];show P.chr_of_int zu (aS σ rs.tok ?_);show hq
theorem Jq {p:Addr} {sep:Str} {ys:List Str} (h:σ p=some (.list (ys.map .str))) (hz:(ys.map (·.length)).sum+ys.length*sep.length<=16777216) (hq:Q (.str (Txt.join sep ys)) σ):aa k (.fn "str.join") [.str sep,.ref p] σ Q X:=by
 show⟨fun A Up g s fv vv hA hH R O rs hf hv=>?_⟩;rw[dL hf];show aH (GI hv) fun a b hr2 ha hb=>?_;rw[hr2];show aw (db ha) fun t hr1=>?_;rw[hr1];rw[ah hb];show aH (aZ rs h) fun vs n hl he hg=>?_;show join_list hl.isList (zR he) hz fun t' k'=>(aS σ rs.tok hq)
theorem Hf {p:Addr} {xs:List AV} (h:σ p=some (.list xs)) (hz:xs.length<=1000000) (hq:∀r,σ r=none->Q (.ref r) (σ.set r (.tup xs))):aa k (.typ "tuple") [.ref p] σ Q X:=by
 show⟨fun A Up g s fv vv hA hH R O rs hf hv=>?_⟩;rw[eO hf];show ae (xn hv) fun a hr1 ha=>?_;rw[hr1];rw[ah ha];show aH (aZ rs h) fun vs n hl he hg=>?_;have hs:=aj he;show call_tuple_list hl.isList (fun h' hk=>by
  have r1:RS Ω.p Ω.w g σ {s with heap:=h'}:=rs.ext hk;show(aS _ (r1.alloc rfl (Dr he)) (hq _ r1.free))) (by rw[hs,mU];lia)
theorem qB {d:Addr} {ep:Nat} {xs:List (AK×AV)} (h:σ d=some (.dict ep xs)) (hz:xs.length<=1000000) (hq:∀r,σ r=none->Q (.ref r) (σ.set r (.list (xs.map fun p:AK×AV=>p.1.av)))):aa k (.typ "list") [.ref d] σ Q X:=by
 show⟨fun A Up g s fv vv hA hH R O rs hf hv=>?_⟩;rw[eO hf];show ae (xn hv) fun a hr1 ha=>?_;rw[hr1];rw[ah ha];show po (co rs O h) fun kvs hd he hg hm=>?_;have hs:kvs.length=xs.length:=by rw[<-he,a9]
 show kdl_call (kdl_dict (knd:=bS Ω.p Ω.w) (kvs:=kvs) (ep:=ep) hm) hH hd (by rw[hs,mU];lia) fun h' tk Uq c' hk hn hacc=>⟨σ.set s.heap.objs.size (.list (xs.map fun p:AK×AV=>p.1.av)),rs.new (a7 _) hk hn (dW (xs:=xs.map fun p:AK×AV=>p.1.av) ?_),hq s.heap.objs.size rs.free⟩;show aL hacc fun h1 h2=>?_;show List.ext_getElem? fun i=>?_;rw[<-he,bq,nG,nG,GF];cases q:Uq[i]? with
 | none=>
  have:kvs[i]?=none:=by rw[List.getElem?_eq_none_iff];rw[Array.getElem?_eq_none_iff] at q;lia
  rw[this];rfl
 | some v=>
  show bQ (h2 i v q) fun x y e1 e2=>?_;rw[e1];change some (er v)=some x.av;rw[AK.is_er e2]
theorem qC {d:Addr} {ep:Nat} {xs:List (AK×AV)} (h:σ d=some (.dict ep xs)) (hz:xs.length<=1000000) (hq:∀r ep',σ r=none->Q (.ref r) (σ.set r (.dict ep' xs))):aa k (.typ "dict") [.ref d] σ Q X:=by
 show⟨fun A Up g s fv vv hA hH R O rs hf hv=>?_⟩;rw[eO hf];show ae (xn hv) fun a hr1 ha=>?_;rw[hr1];rw[ah ha];show po (co rs O h) fun kvs hd he hg hm=>?_;have hs:kvs.length=xs.length:=by rw[<-he,a9]
 show kt_call_dict hm hd.dictOf (by rw[hs,mU];lia) fun h' hd' sb=>?_;show aw hd'.dictAt fun ep' hd'=>?_;show ae (ke hd' he) fun ob ho hof=>?_;show(aS _ (rs.new (a7 _) (fun b o e=>sb.extBut b o (Nat.ne_of_lt (va e)) (qo _ e)) ho hof) (hq _ ep' rs.free))
theorem Jr {a b:Int} (hq:Q (.int (if b<a then b else a)) σ):aa k (.fn "min") [.int a,.int b] σ Q X:=by
 show⟨fun A Up g s fv vv hA hH R O rs hf hv=>?_⟩;rw[dL hf];show aH (GI hv) fun u v hr2 hu hv'=>?_;rw[hr2];show aw (aI hu) fun t hr1=>?_;rw[hr1];show aw (aI hv') fun t' hr1=>?_;rw[hr1];show min_two_ints hH fun h' tk hk=>(aS σ (rs.ext hk) ?_);by_cases z:b<a
 . rw[eM z] at hq⊢;show hq
 . rw[dr z] at hq⊢;show hq
theorem lV {p:Addr} {ns:List Int} (h:σ p=some (.list (ns.map .int))) (hz:ns.length<64) (hq:∀(r:Addr) (ms:List Int),σ r=none->ms.Perm ns->ms.Pairwise (· <= ·)->Q (.ref r) (σ.set r (.list (ms.map .int)))):aa k (.fn "sorted") [.ref p] σ Q X:=by
 show⟨fun A Up g s fv vv hA hH R O rs hf hv=>?_⟩;rw[dL hf];show ae (xn hv) fun a hr1 ha=>?_;rw[hr1];rw[ah ha];show aH (aZ rs h) fun vs n hl he hg=>?_;have hs:=aj he;rw[a9] at hs;show sorted_ints (vs:=vs.toList) (by simpa using hl.isList) (vc he) (by simpa [hs] using hz) fun out ms hI hp hw=>?_;show aw (sortedAll_at s.heap vs.toList out) fun e he'=>?_;have hn:s.heap.get? (s.heap.objs.size+1)=none:=by
  cases q:s.heap.get? (s.heap.objs.size+1) with
  | none=>rfl
  | some o=>show absurd (va q) (Nat.not_lt.mpr (Nat.le_succ _))
 show(aS _ (rs.new hn (fun b o q=>sortedAll_old q) he' (dW (Jp hI))) (hq _ ms (rs.free_of hn) hp hw))
theorem Dy {a b c:Int} {t u v:Tok}:AO.Of Ω.p Ω.w {cls:= .type "range",data:= .fields #[.int a t,.int b u,.int c v]} (.rng a b c):=⟨_,_,_,rfl⟩
theorem jL {b:Int} (hq:∀r,σ r=none->Q (.ref r) (σ.set r (.rng 0 b 1))):aa k (.typ "range") [.int b] σ Q X:=by
 show⟨fun A Up g s fv vv hA hH R O rs hf hv=>?_⟩;rw[eO hf];show ae (xn hv) fun a hr1 ha=>?_;rw[hr1];show aw (aI ha) fun t hr1=>?_;rw[hr1];show call_range_1 (aS _ (rs.alloc rfl Dy) (hq _ rs.free))
theorem sA {a b:Int} (hq:∀r,σ r=none->Q (.ref r) (σ.set r (.rng a b 1))):aa k (.typ "range") [.int a,.int b] σ Q X:=by
 show⟨fun A Up g s fv vv hA hH R O rs hf hv=>?_⟩;rw[eO hf];show aH (GI hv) fun u v hr2 hu hv'=>?_;rw[hr2];show aw (aI hu) fun t hr1=>?_;rw[hr1];show aw (aI hv') fun t' hr1=>?_;rw[hr1];show call_range_2 (aS _ (rs.alloc rfl Dy) (hq _ rs.free))
theorem yP {a b c:Int} (hc:c≠0) (hp:Builtin.divisionGoesByPylong (b-a) c=false) (hq:∀r,σ r=none->Q (.ref r) (σ.set r (.rng a b c))):aa k (.typ "range") [.int a,.int b,.int c] σ Q X:=by
 show⟨fun A Up g s fv vv hA hH R O rs hf hv=>?_⟩;rw[eO hf];show Mx (TP hv) fun u v x hr3 hu hv' hx=>?_;rw[hr3];show aw (aI hu) fun t hr1=>?_;rw[hr1];show aw (aI hv') fun t' hr1=>?_;rw[hr1];show aw (aI hx) fun t'' hr1=>?_;rw[hr1];show call_range_3 hc (aS _ (rs.alloc rfl Dy) (hq _ rs.free)) (.inl hp)
theorem vK {p:Addr} {ns:List Int} (h:σ p=some (.list (ns.map .int))) (hr:∀n∈ns,0<=n/\n<256) (hz:ns.length<=1000000) (hq:Q (.bytes (ns.map fun n=>n.toNat.toUInt8)) σ):aa k (.typ "bytes") [.ref p] σ Q X:=by
 show⟨fun A Up g s fv vv hA hH R O rs hf hv=>?_⟩;rw[eO hf];show ae (xn hv) fun a hr1 ha=>?_;rw[hr1];rw[ah ha];show aH (aZ rs h) fun vs n hl he hg=>?_;have hs:=aj he;rw[a9] at hs;show call_bytes_ints (vs:=vs.toList) (by simpa using hl.isList) (vc he) hr (by rw[Array.length_toList,hs,mU];lia) hH fun h' t k' hk=>(aS σ (rs.ext hk) ?_);simpa [er,byteArr] using hq
theorem MP {n:Int} (h:n.natAbs.log2<1920) (hq:Q (.str (Str.ofString (toString n))) σ):aa k (.typ "str") [.int n] σ Q X:=by
 show⟨fun A Up g s fv vv hA hH R O rs hf hv=>?_⟩;rw[eO hf];show ae (xn hv) fun a hr1 ha=>?_;rw[hr1];show aw (aI ha) fun t hr1=>?_;rw[hr1];show P.str_of_int h (aS σ rs.tok hq)
theorem AS.UL {σ:AS} {a:Addr} {x y:AO}:(σ.set a x).set a y=σ.set a y:=by
 funext b;by_cases h:b=a
 . rw[h];rw[AS.UJ,AS.UJ]
 . rw[AS.UK h,AS.UK h,AS.UK h]
theorem AS.set_id {σ:AS} {a:Addr} {x:AO} (h:σ a=some x):σ.set a x=σ:=by
 funext b;by_cases e:b=a
 . subst e;rw[AS.UJ,h]
 . rw[AS.UK e]
noncomputable abbrev bb (D:LU) (p:Nat):AO:= .ns [(.data,.bytes D),(.at,.int p),(.end_,.int D.length)]
structure cV (σ:AS) (c N:Addr) (D:LU) (p:Nat):Prop where
 i:σ c=some (.inst 211 N)
 n:σ N=some (bb D p)
 ne:c≠N
 le:p<=D.length
 small:D.length<=1000000
theorem cV.move {c N:Addr} {D:LU} {p q:Nat} (C:cV σ c N D p) (h:q<=D.length):cV (σ.set N (bb D q)) c N D q:=
 ⟨(AS.UK C.ne).trans C.i,AS.UJ,C.ne,h,C.small⟩
theorem eY {B:LU} {i j:Int} {a b:Nat} (hi:i=a) (hj:j=b) (hz:B.length<=1000000) (hq:Q (.bytes ((B.drop a).take (b-a))) σ):ik k (.bytes B) (.int i) (.int j) .none σ Q X:=by
 subst hi hj;show zN hz hq
theorem cc {B:LU} {i:Int} {n:Nat} {c:UInt8} (hi:i=n) (hc:B[n]?=some c) (hz:B.length<=100000000) (hq:Q (.int c.toNat) σ):xo k (.bytes B) (.int i) σ Q X:=by
 rw[hi];show sq hc hz hq
theorem cD (W:WW) {n:Int} (hq:Q (.bool (decide (48<=n)&&decide (n<=57))) σ):aa (k+1) (.ref 108) [.int n] σ Q X:=by
 show(af W tE (BB W) rfl zd ?_).call;show Br.dec (fun h1=>?_) (fun h1=>?_)<;>walk_at "w"<;>simpa [h1] using hq
noncomputable def pk (D:LU) (p:Nat):Int:=match D[p]? with
 | some c=>c.toNat
 | none=> -1
theorem Fx (W:WW) {c N:Addr} {D:LU} {p:Nat} (C:cV σ c N D p) (hq:Q (.bool (decide (D.length<=p))) σ):aa (k+1) (.ref 130) [.ref c] σ Q X:=by
 obtain⟨h1,h2,h3,h4,h5⟩:=C;show(af W jI (sz W) rfl zd ?_).call;right;simpa [Int.ofNat_le] using hq
theorem L5 {D:LU} {p:Nat} (h:p<D.length):pk D p=(D[p]).toNat:=by unfold pk;rw[Bf h]
theorem Hg {D:LU} {p:Nat} (h:D.length<=p):pk D p= -1:=by unfold pk;rw[List.getElem?_eq_none h]
theorem eo (W:WW) {c N:Addr} {D:LU} {p:Nat} (C:cV σ c N D p) (hq:Q (.int (pk D p)) σ):aa (k+1) (.ref 138) [.ref c] σ Q X:=by
 obtain⟨h1,h2,h3,h4,h5⟩:=C;show(af W jk (xx W) rfl zd ?_).call;right;show Br.dec (fun h=>?_) (fun h=>?_)
 . have hp:p<D.length:=zo;right;rw[Int.add_zero];show sq (Bf hp) zo ?_;rw[<-L5 hp];show hq
 . rw[Hg zo] at hq;show hq
theorem sB (W:WW) {c N:Addr} {D:LU} {p:Nat} (C:cV σ c N D p) (h:p<D.length) (hq:Q (.int (D[p]).toNat) (σ.set N (bb D (p+1)))):aa (k+1) (.ref 145) [.ref c] σ Q X:=by
 obtain⟨h1,h2,h3,h4,h5⟩:=C;show(af W om (xy W) rfl zd ?_).call;right;show Br.neg (uw zo) ?_;right;show sq (Bf h) zo ?_;right;show hq
theorem Hh (W:WW) {c N:Addr} {D x:LU} {p:Nat} (C:cV σ c N D p) (hx:x.length<=100) (hq:Q (.bool (x.isPrefixOf (D.drop p))) σ):aa (k+1) (.ref 152) [.ref c,.bytes x] σ Q X:=by
 obtain⟨h1,h2,h3,h4,h5⟩:=C;show(af W kW (uD W) rfl zd ?_).call;right;show am zo ?_;right;show Br.dec (fun h=>?_) (fun h=>?_)
 . right;show am zo ?_;show eY (a:=p) (b:=p+x.length) rfl zo zo ?_;walk_at "w";have e:((D.drop p).take (p+x.length-p)==x)=x.isPrefixOf (D.drop p):=by
    rw[show p+x.length-p=x.length by lia,Bool.eq_iff_iff,Bh,QW,List.prefix_iff_eq_take];show eq_comm
   rw[e];show hq
 . have e:x.isPrefixOf (D.drop p)=false:=by
    rw[Bool.eq_false_iff];intro z;have:=(QW.mp z).length_le;rw[Fl] at this;lia
   rw[e] at hq;simpa [h] using hq
theorem lW (W:WW) {c N:Addr} {D x:LU} {p:Nat} (C:cV σ c N D p) (hx:x.length<=100) (h1:x.isPrefixOf (D.drop p)=true->Q (.bool true) (σ.set N (bb D (p+x.length)))) (h2:x.isPrefixOf (D.drop p)=false->Q (.bool false) σ):aa (k+2) (.ref 159) [.ref c,.bytes x] σ Q X:=by
 have C':=C;obtain⟨q1,q2,q3,q4,q5⟩:=C;show(af W oo (xz W) rfl zd ?_).call;right;show ad q1 q2 (f:=152) zk ?_;show Hh W C' hx ?_;show⟨fun h=>?_,fun h=>?_⟩
 . show h2 (by simpa using h)
 . right;show am zo ?_;right;show h1 (by simpa using h)
noncomputable def qm (c:UInt8):Bool:=[0,9,10,12,13,32].any (· ==c.toNat)
theorem sE (W:WW):tu Ω σ 86 (.tup (([0,9,10,12,13,32]:List Int).map .int)):= .inr ⟨Ra,W.inK 86 _ zk,_,_,rfl,rfl⟩
theorem Fy (W:WW):tu Ω σ 87 (.tup (([40,41,60,62,91,93,123,125,47,37]:List Int).map .int)):= .inr ⟨Rb,W.inK 87 _ zk,_,_,rfl,rfl⟩
theorem bI {D r:LU} {c:UInt8} {p:Nat} (h:D.drop p=c::r):∃lt:p<D.length,D[p]=c/\D.drop (p+1)=r:=by
 have lt:p<D.length:=by
  have:=congrArg List.length h;rw[Fl,fF] at this;lia
 rw[List.drop_eq_getElem_cons lt] at h;show aL (List.cons.inj h) fun h1 h2=>?_;show⟨lt,h1,h2⟩
theorem BD (a:Nat) (c:UInt8):((a:Int)==(c.toNat:Int))=(a==c.toNat):=by
 rw[Bool.eq_iff_iff,Bh,Bh];show Int.ofNat_inj
theorem zS (c:UInt8):(([0,9,10,12,13,32]:List Int).any (· ==(c.toNat:Int)))=qm c:=by
 have e:([0,9,10,12,13,32]:List Int)=List.map (fun n:Nat=>(n:Int)) [0,9,10,12,13,32]:=rfl;rw[e,List.any_map];unfold qm
 congr 1
 funext a;show BD a c
noncomputable def QA (c:UInt8):Bool:=[40,41,60,62,91,93,123,125,47,37].any (· ==c.toNat)
theorem Js (c:UInt8):(([40,41,60,62,91,93,123,125,47,37]:List Int).any (· ==(c.toNat:Int)))=QA c:=by
 have e:([40,41,60,62,91,93,123,125,47,37]:List Int)=List.map (fun n:Nat=>(n:Int)) [40,41,60,62,91,93,123,125,47,37]:=rfl;rw[e,List.any_map];unfold QA
 congr 1
 funext a;show BD a c
noncomputable def qD (c:UInt8):Bool:=!qm c&&!QA c
theorem kq (W:WW) {c:UInt8} (hq:Q (.bool (qD c)) σ):aa (k+1) (.ref 101) [.int c.toNat] σ Q X:=by
 show(af W kn (qA W) rfl zd ?_).call;show Br.pos (yz zo) ?_;show oq (sE W) ?_;rw[zS];show⟨fun h=>?_,fun h=>?_⟩
 . show oq (Fy W) ?_;rw[Js];unfold qD at hq;rw[h] at hq;show hq
 . unfold qD at hq;rw[h] at hq;change Q (.bool (!qm c)) σ;rw[h];show hq
theorem sF (W:WW) (hq:Q (.bool false) σ):aa (k+1) (.ref 101) [.int (-1)] σ Q X:=by
 show(af W kn (qA W) rfl zd ?_).call;show Br.neg (uw zo) ?_;show hq
theorem EG {d:UInt8} {n:Nat} (h:d≠n.toUInt8):((d.toNat:Int)==(n:Int))=false:=by
 rw[xg];intro e;apply h;have:d.toNat=n:=Int.ofNat_inj.mp e;rw[<-this];simp
theorem MQ {d:UInt8} (h:qm d=true):d≠37:=by
 rintro rfl;show absurd h zd
def sG:LU->Prop
 | []=>True
 | c::_=>qm c=false/\c≠37
theorem uF (W:WW) {c N:Addr} {D Us:LU} {Q:ax} (hr:sG Us):∀(ws:LU) (p:Nat) (σ:AS) (x:Option AV),(∀c∈ws,qm c=true)->cV σ c N D p->D.drop p=ws++Us->
 (∀x,Q .next [some (.ref c),x] (σ.set N (bb D (p+ws.length))))->(∀x,Q (.ret .none) [some (.ref c),x] (σ.set N (bb D (p+ws.length))))->aX (gj) gk k Q (ws.length+1) [some (.ref c),x] σ:=by
 intro ws;induction ws with
 | nil=>
  intro p σ x hw C hd h1 h2;obtain⟨q1,q2,q3,q4,q5⟩:=C;have e:σ.set N (bb D (p+0))=σ:=AS.set_id q2;simp only [List.length_nil] at h1 h2⊢;rw[e] at h1 h2;right;show Br.dec (fun h=>?_) (fun h=>?_)
  . right;cases Us with
    | nil=>
     have:=congrArg List.length hd;rw[Fl] at this;simp at this;lia
    | cons d r=>
     show ae (bI hd) fun lt e1 e2=>?_;show cc (n:=p) rfl (Bf lt) zo ?_;rw[e1];show aL hr fun n1 n2=>?_;show Br.neg (EG n2) ?_;show fP (sE W) ?_;rw[zS];show Br.neg n1 ?_;show h2 _
  . show h1 _
 | cons d ws ih=>
  intro p σ x hw C hd h1 h2;have C':=C;obtain⟨q1,q2,q3,q4,q5⟩:=C;show ae (bI hd) fun lt e1 e2=>?_;have hd1:qm d=true:=hw d bJ;right;show Br.pos (yz zo) ?_;right;show cc (n:=p) rfl (Bf lt) zo ?_;rw[e1];show Br.neg (EG (MQ hd1)) ?_;show fP (sE W) ?_;rw[zS];show Br.pos hd1 ?_;right;have hz:p+1+ws.length=p+(d::ws).length:=by simp;lia
  have C2:cV (σ.set N (bb D (p+1))) c N D (p+1):=C'.move lt;show⟨ih (p+1) _ _ (fun c hc=>hw c (du _ hc)) C2 e2 (fun x=>?_) (fun x=>?_)⟩
  . rw[AS.UL,hz];show h1 x
  . rw[AS.UL,hz];show h2 x
theorem aE (W:WW) {c N:Addr} {D ws Us:LU} {p:Nat} (C:cV σ c N D p) (hw:∀c∈ws,qm c=true) (hr:sG Us) (hd:D.drop p=ws++Us) (hq:Q .none (σ.set N (bb D (p+ws.length)))):aa (k+1) (.ref 166) [.ref c] σ Q X:=by
 show(af W gK (nM W) rfl zd ?_).call;show⟨_,uF W hr ws p σ none hw C hd (fun x=>?_) (fun x=>?_)⟩
 . show hq
 . show hq
theorem AS.UN {σ:AS} {a b:Addr} {x y:AO} (h:a≠b):(σ.set a x).set b y=(σ.set b y).set a x:=by
 funext c;by_cases h1:c=a
 . subst h1;rw[AS.UJ,AS.UK h,AS.UJ]
 . by_cases h2:c=b
   . subst h2;rw[AS.UJ,AS.UK h1,AS.UJ]
   . rw[AS.UK h2,AS.UK h1,AS.UK h1,AS.UK h2]
theorem AS.mk_eq {σ:AS} {a N:Addr} {x y i:AO} (h:a≠N):((σ.set N x).set a i).set N y=(σ.set N y).set a i:=by rw[AS.UN h,AS.UL]
theorem Hi (W:WW) {D:LU} {p:Nat} {a N:Addr} (hz:D.length<=1000000) (hne:a≠N) (hq:Q .none ((σ.set N (bb D p)).set a (.inst 211 N))):
 kO (k+1) (.ref 123) [.ref a,.bytes D,.int p] ((σ.set N (.ns [])).set a (.inst 211 N)) Q X:=by
 show af W b0 (uB W) rfl (zd) ?_;right;show Br.pos (yz zd) ?_;show am zo ?_;right;simp only [AS.UL,AS.mk_eq hne];show hq
theorem FA (W:WW) {D:LU} {p:Nat} {a N:Addr} (hz:D.length<=1000000) (hne:a≠N) (hq:Q .none ((σ.set N (bb D p)).set a (.inst 211 N))):
 kO (k+1) (.ref 123) [.ref a,.bytes D,.int p,.int D.length] ((σ.set N (.ns [])).set a (.inst 211 N)) Q X:=by
 show af W b0 (uC W) rfl (zd) ?_;right;show Br.neg (uw zo) ?_;show am zo ?_;show Jr ?_;rw[dr zo];right;simp only [AS.UL,AS.mk_eq hne];show hq
theorem FC (W:WW) {D:LU} {a N:Addr} (hz:D.length<=1000000) (hne:a≠N) (hq:Q .none ((σ.set N (bb D 0)).set a (.inst 211 N))):
 kO (k+1) (.ref 123) [.ref a,.bytes D] ((σ.set N (.ns [])).set a (.inst 211 N)) Q X:=by
 show af W b0 (uA W) rfl (zd) ?_;right;show Br.pos (yz zd) ?_;show am zo ?_;right;simp only [AS.UL,AS.mk_eq hne];show hq
theorem gm (W:WW) {D:LU} {p:Nat} {vs:List AV} (hv:vs=[.bytes D,.int p]\/vs=[.bytes D,.int p,.int D.length]\/(vs=[.bytes D]/\p=0)) (hz:D.length<=1000000)
 (hq:∀a N,σ a=none->σ N=none->a≠N->Q (.ref a) ((σ.set N (bb D p)).set a (.inst 211 N))):aa (k+2) (.ref 211) vs σ Q X:=by
 show iM W (f:=123) zk zk zk fun a N h1 h2 h3=>?_;rcases hv with rfl | rfl | ⟨rfl,rfl⟩
 . show Hi W hz h3 ⟨rfl,hq a N h1 h2 h3⟩
 . show FA W hz h3 ⟨rfl,hq a N h1 h2 h3⟩
 . show FC W hz h3 ⟨rfl,hq a N h1 h2 h3⟩
theorem cV.new {a N:Addr} {D:LU} {p:Nat} (h:a≠N) (h1:p<=D.length) (h2:D.length<=1000000):cV ((σ.set N (bb D p)).set a (.inst 211 N)) a N D p:=
 ⟨AS.UJ,(AS.UK (ez h)).trans AS.UJ,h,h1,h2⟩
theorem cF {D r:LU} {c:UInt8} {p:Nat} (h:D.drop p=c::r):pk D p=c.toNat:=by
 show ae (bI h) fun lt e _=>?_;rw[L5 lt,e]
theorem jM (W:WW) {c N:Addr} {D r:LU} {p:Nat} (C:cV σ c N D p) (hd:D.drop p=10::r) (hq:Q (.bool true) (σ.set N (bb D (p+1)))):aa (k+2) (.ref 180) [.ref c] σ Q X:=by
 have C':=C;obtain⟨q1,q2,q3,q4,q5⟩:=C;show(af W eX (ko W) rfl zd ?_).call;right;show ad q1 q2 (f:=138) zk ?_;show eo W C' ?_;rw[cF hd];show Br.neg zd ?_;show ad q1 q2 (f:=138) zk ?_;show eo W C' ?_;rw[cF hd];show Br.pos zd ?_;right;show hq
def BE:LU->Prop
 | []=>True
 | c::_=>qD c=false
theorem qE (W:WW) {c N:Addr} {D Us:LU} {f:AV} {Q:ax} (hr:BE Us):∀(ws:LU) (p:Nat) (σ:AS),(∀c∈ws,qD c=true)->cV σ c N D p->D.drop p=ws++Us->
 Q .next [some (.ref c),some f] (σ.set N (bb D (p+ws.length)))->aX (eS) eV (k+1) Q (ws.length+1) [some (.ref c),some f] σ:=by
 intro ws;induction ws with
 | nil=>
  intro p σ hw C hd h1;obtain⟨q1,q2,q3,q4,q5⟩:=C;have e:σ.set N (bb D (p+0))=σ:=AS.set_id q2;simp only [List.length_nil] at h1⊢;rw[e] at h1;right;show Br.dec (fun h=>?_) (fun h=>?_)
  . right;cases Us with
    | nil=>
     have:=congrArg List.length hd;rw[Fl] at this;simp at this;lia
    | cons d r=>
     show ae (bI hd) fun lt e1 e2=>?_;show cc (n:=p) rfl (Bf lt) zo ?_;rw[e1];show kq W ?_;show Br.neg hr h1
  . walk_at "w";show h1
 | cons d ws ih=>
  intro p σ hw C hd h1;have C':=C;obtain⟨q1,q2,q3,q4,q5⟩:=C;show ae (bI hd) fun lt e1 e2=>?_;have hd1:qD d=true:=hw d bJ;right;show Br.pos (yz zo) ?_;right;show cc (n:=p) rfl (Bf lt) zo ?_;rw[e1];show kq W ?_;show Br.pos hd1 ?_;right;have hz:p+1+ws.length=p+(d::ws).length:=by simp;lia
  have C2:cV (σ.set N (bb D (p+1))) c N D (p+1):=C'.move lt;show⟨ih (p+1) _ (fun c hc=>hw c (du _ hc)) C2 e2 ?_⟩;rw[AS.UL,hz];show h1
theorem yQ {D ws Us:LU} {p:Nat} (h:D.drop p=ws++Us):(D.drop p).take (p+ws.length-p)=ws:=by
 rw[h,show p+ws.length-p=ws.length by lia,List.take_left'];rfl
theorem aB {D ws Us:LU} {p:Nat} (h:D.drop p=ws++Us) (hp:p<=D.length):p+ws.length<=D.length:=by
 have:=congrArg List.length h;rw[Fl,j7] at this;lia
theorem dc (W:WW) {c N:Addr} {D ws Us:LU} {p:Nat} (C:cV σ c N D p) (hw:∀c∈ws,qD c=true) (hr:BE Us) (hd:D.drop p=ws++Us) (hq:Q (.bytes ws) (σ.set N (bb D (p+ws.length)))):aa (k+2) (.ref 173) [.ref c] σ Q X:=by
 have C':=C;obtain⟨q1,q2,q3,q4,q5⟩:=C;show(af W fG (lI W) rfl zd ?_).call;right;show⟨_,qE W hr ws p σ hw C' hd ?_⟩;right;show eY (a:=p) (b:=p+ws.length) rfl rfl zo ?_;rw[yQ hd];show hq
noncomputable def gw (c:UInt8):Bool:=decide (48<=c.toNat)&&decide (c.toNat<=57)
theorem iP (c:UInt8):(decide (48<=(c.toNat:Int))&&decide ((c.toNat:Int)<=57))=gw c:=by
 unfold gw
 congr 1<;>(rw[decide_eq_decide];lia)
noncomputable def ay (n:Nat) (ds:LU):Nat:=ds.foldl (fun n c=>n*10+(c.toNat-48)) n
def Q0:LU->Prop
 | []=>True
 | c::_=>gw c=false
theorem qF {d:UInt8} (h:gw d=true):48<=d.toNat/\d.toNat<=57:=by
 unfold gw at h;simpa only [nH,decide_eq_true_eq] using h
theorem BF (W:WW) {c N:Addr} {D Us:LU} {f:AV} {Q:ax} (hr:Q0 Us):∀(ws:LU) (p n:Nat) (σ:AS),(∀c∈ws,gw c=true)->cV σ c N D p->D.drop p=ws++Us->
 Q .next [some (.ref c),some f,some (.int (ay n ws))] (σ.set N (bb D (p+ws.length)))->aX (jJ) jK (k+2) Q (ws.length+1) [some (.ref c),some f,some (.int n)] σ:=by
 intro ws;induction ws with
 | nil=>
  intro p n σ hw C hd h1;have C':=C;obtain⟨q1,q2,q3,q4,q5⟩:=C;have e:σ.set N (bb D (p+0))=σ:=AS.set_id q2;simp only [List.length_nil] at h1⊢;rw[e] at h1;show ad q1 q2 (f:=138) zk ?_;show eo W C' ?_;show cD W ?_;show Br.neg ?_ h1;cases Us with
  | nil=>
   have:D.length<=p:=by
    have:=congrArg List.length hd;rw[Fl] at this;simp at this;lia
   rw[Hg this];rfl
  | cons d r=>rw[cF hd,iP];show hr
 | cons d ws ih=>
  intro p n σ hw C hd h1;have C':=C;obtain⟨q1,q2,q3,q4,q5⟩:=C;show ae (bI hd) fun lt e1 e2=>?_;have hd1:gw d=true:=hw d bJ;show aL (qF hd1) fun d1 d2=>?_;show ad q1 q2 (f:=138) zk ?_;show eo W C' ?_;show cD W ?_;show Br.pos (by rw[cF hd,iP];show hd1) ?_;show⟨IntMulOk.of_right zd,?_⟩;show ad q1 q2 (f:=145) zk ?_;show sB W C' lt ?_;rw[e1];have hz:p+1+ws.length=p+(d::ws).length:=by simp;lia
  have C2:cV (σ.set N (bb D (p+1))) c N D (p+1):=C'.move lt;have en:((n:Int)*10+(d.toNat:Int)-48)=((n*10+(d.toNat-48):Nat):Int):=zo;show⟨?_⟩;rw[en];show ih (p+1) (n*10+(d.toNat-48)) _ (fun c hc=>hw c (du _ hc)) C2 e2 ?_;rw[AS.UL,hz];show h1
theorem BG (W:WW) {c N:Addr} {D ws Us:LU} {p:Nat} (C:cV σ c N D p) (hw:∀c∈ws,gw c=true) (h0:ws≠[]) (h20:ws.length<=20) (hr:Q0 Us) (hd:D.drop p=ws++Us) (hq:Q (.int (ay 0 ws)) (σ.set N (bb D (p+ws.length)))):aa (k+3) (.ref 194) [.ref c] σ Q X:=by
 have C':=C;obtain⟨q1,q2,q3,q4,q5⟩:=C;have hl:0<ws.length:=List.length_pos_iff.mpr h0;show(af W kX (uE W) rfl zd ?_).call;right;show⟨_,BF W hr ws p 0 σ hw C' hd ?_⟩;right;show Br.neg (by rw[xg];lia) ?_;right;show Br.neg (uw zo) ?_;show hq
end
set_option tactic.hygienic true
noncomputable section
open MeetsSeq
set_option maxRecDepth 100000
theorem vL:GL "CLOSE_PAREN" (.int 41 892):=mL
theorem Dz:GL "Decimal" (.ref 309):=mL
theorem DA:GL "GREATER" (.int 62 896):=mL
theorem Jt:GL "HASH" (.int 35 902):=mL
theorem EH:GL "LESS" (.int 60 894):=mL
theorem Hj:GL "MINUS" (.int 45 472):=mL
theorem jm:GL "MOST_FIGURES_decimals" (.int 40 468):=mL
theorem zT:GL "MOST_HOPS" (.int 30 621):=mL
theorem zU:GL "Name" (.ref 351):=mL
theorem BH:GL "PAREN" (.int 40 890):=mL
theorem Ju:GL "PLUS" (.int 43 470):=mL
theorem Hk:GL "POINT" (.int 46 474):=mL
theorem qG:GL "Reference" (.ref 422):=mL
theorem BI:GL "SIGNS" (.ref 534):=mL
theorem BJ:GL "SLASH" (.int 47 898):=mL
theorem yR:GL "Stream" (.ref 394):=mL
theorem FD:GL "String" (.ref 373):=mL
theorem Jv:GL "ZERO" (.int 48 476):=mL
theorem zV:GB "bool" (.type "bool"):=mB
theorem lX:GB "bytes" (.type "bytes"):=mB
theorem MR:GB "chr" (.builtin "chr"):=mB
theorem gW:GB "dict" (.type "dict"):=mB
theorem xA:GL "hex_string" (.ref 582):=mL
theorem zW:GL "hex_worth" (.ref 541):=mL
theorem sH:GB "int" (.type "int"):=mB
theorem aV:GB "isinstance" (.builtin "isinstance"):=mB
theorem m4:GB "list" (.type "list"):=mB
theorem DB:GL "literal" (.ref 577):=mL
theorem gn:GB "range" (.type "range"):=mB
theorem sJ:GB "sorted" (.builtin "sorted"):=mB
theorem Hl:GB "tuple" (.type "tuple"):=mB
theorem xB:GL "word_value" (.ref 659):=mL
theorem fQ:GC "Cursor" (.ref 211):=mC
theorem DD:GC "Decimal" (.ref 309):=mC
theorem Jw:GC "Name" (.ref 351):=mC
theorem zX:GC "Reference" (.ref 422):=mC
theorem FE:GC "String" (.ref 373):=mC
theorem pG:GC "delimited_token" (.ref 596):=mC
theorem DE:GC "dict_of" (.ref 671):=mC
theorem tG:GC "is_whole" (.ref 645):=mC
theorem vM:GC "kind_of" (.ref 433):=mC
theorem zY:GC "name_text" (.ref 556):=mC
theorem kY:GC "read_decimal" (.ref 334):=mC
theorem zZ:GC "run_token" (.ref 589):=mC
theorem qH:GC "take_reference" (.ref 652):=mC
theorem bR:GC "told_objects" (.ref 445):=mC
theorem xC:GC "told_plain" (.ref 440):=mC
def eZ:Fn:=bZ "read_decimal" (tF 26) ["octets","begun","top","numerals","places","code"] [gB bO,gE Ju,gE Hj,gE Hk,gE Jv,gE jm,gC DD]
def kZ:eF eZ:=(.name 5 (z 3961212))
def k7:CB eZ:= .K (.ite (.all .And [(.q (.v 5 3984165) .Eq (.g 3 3985374) 3984174),(.q (.v 4 3986885) .Lt (.i 0 3988239) 3986889)] (z 3984189)) (.K (.a 4 (.i 0 4008172) 4006818 4006822) .nil) (.K (.ite (.chain (.g 4 4029467) (z 4029487) .LtE .LtE (.v 5 4030675) (.r (.g 4 4031883) .Add (.i 9 4032937) 4031887)) (.K (.a 2 (.r (.r (.r (.i 10 4052720) .Mult (.v 2 4053476) 4052726) .Add (.v 5 4054383) 4052733) .Sub (.g 4 4055440) 4052740) 4051815 4051840) (.K (.a 3 (.r (.v 3 4075981) .Add (.i 1 4077635) 4075985) 4074320 4074335) (.K (.ite (.q (.v 4 4097271) .GtE (.i 0 4098776) 4097276) (.K (.a 4 (.r (.v 4 4121281) .Add (.i 1 4122635) 4121285) 4119922 4119935) .nil) .nil ⟨182,12,183,35⟩) .nil))) (.K (.t (.o 4165373) 4164323) .nil) ⟨179,8,185,23⟩) .nil) ⟨177,8,185,23⟩) .nil
def e8:CB eZ:= .K (.a 1 (.i 0 3826813) 3825609 3825613) (.K (.ite (.all .And [(.q (.c 0 3848560 [(.v 0 3849167)] 3848568) .Gt (.i 0 3850672) 3848572),(.all .Or [(.q (.u (.v 0 3851734) (.i 0 3852786) 3851737) .Eq (.g 1 3853695) 3851745),(.q (.u (.v 0 3854905) (.i 0 3855957) 3854908) .Eq (.g 2 3856867) 3854917)] (z 3851767))] (z 3848618)) (.K (.a 1 (.i 1 3872417) 3871213 3871217) .nil) .nil ⟨171,4,172,17⟩) (.K (.a 2 (.i 0 3894011) 3893107 3893111) (.K (.a 3 (.i 0 3917266) 3915612 3915616) (.K (.a 4 (.neg 1 0 (z 3939465) (z 3939615)) 3938110 3938115) (.K (.for_ kZ (.slice (.v 0 3962422) (some (.v 1 3963478)) none none (z 3963479) (z 3962430)) k7 ⟨176,4,185,23⟩) (.K (.ite (.all .Or [(.q (.v 3 4186065) .Eq (.i 0 4187870) 4186070),(.q (.v 3 4188632) .Gt (.g 5 4190306) 4188656)] (z 4186106)) (.K (.t (.o 4209769) 4208719) .nil) .nil ⟨186,4,187,19⟩) (.K (.ite (.q (.u (.v 0 4231063) (.i 0 4232115) 4231066) .Eq (.g 2 4233025) 4231075) (.K (.dead (bA (bg 0 (bA (bg 0 (tF 26)) 7)) 0)) .nil) .nil ⟨188,4,189,18⟩) (.K (.t (.ifexp (.q (.v 4 4277724) .Lt (.i 0 4279078) 4277728) (.v 2 4276664) (.c 6 4280141 [(.v 2 4281345),(.v 4 4282103)] 4280154) (z 4276704)) 4275654) .nil))))))))
theorem iq:DT eZ 334 333 1 e8:=dm (tF 26) zx
def tH:Fn:=bZ "Name.__init__" (tM 29 0) ["self","text"] []
def tI:CB tH:= .K (.setattr (.v 1 4413024) (.v 0 4411212) .text (z 4411217) (z 4411224)) .nil
theorem BK:DT tH 348 347 2 tI:=dm (tM 29 0) ji
def ou:Fn:=bZ "Stream.__init__" (tM 31 0) ["self","head","octets"] []
def ov:CB ou:= .K (.setattr (.v 1 4615524) (.v 0 4613712) .head (z 4613717) (z 4613724)) (.K (.setattr (.v 2 4638328) (.v 0 4636212) .octets (z 4636219) (z 4636228)) .nil)
theorem xD:DT ou 391 390 3 ov:=dm (tM 31 0) ji
def dP:Fn:=bZ "Lookup.__init__" (tM 37 0) ["self","table","trailer"] []
def jn:CB dP:= .K (.setattr (.ifexp (.q (.v 1 5944082) .Is (.o 5945440) 5944090) (.dict0 (z 5943173)) (.v 1 5946951) (z 5943201)) (.v 0 5941212) .table (z 5941218) (z 5941251)) (.K (.setattr (.ifexp (.q (.v 2 5966886) .Is (.o 5968544) 5966894) (.dict0 (z 5965975)) (.v 2 5970057) (z 5966007)) (.v 0 5963712) .trailer (z 5963720) (z 5963757)) .nil)
theorem xE:(jn:CB dP).b=bg 0 (tM 37 0):=zk
theorem xF (W:WW):eP dP Ω.w Ω.b 460 (.ref 459) (jn:CB dP).b 1 fun vv=>dP.names.zip (vv++[.none,.none]):=
 fO (st:=tM 37 0) (q:="Lookup.__init__") (df:=(.ref 453)) (pm:=ji) W zk zk (by rw[xE];kernel_rfl) zk rfl (fun s vv X hn=>by obtain⟨v0,rfl⟩:=xt hn;show im X (T:=453) (items:=[.none,.none]) (ps:=[⟨"self",none,(z 5920071)⟩,⟨"table",none,(z 5920978)⟩,⟨"trailer",none,(z 5922792)⟩]) zk rfl zk zk (fun fd hp hk=>by obtain⟨⟩:=fd;cases hp;cases hk;show⟨_,rfl,rfl⟩)) zk (jG zk)
def e9:Fn:=bZ "Lookup.fetch" (tM 37 1) ["self","value","here","hop","generation","found"] [gE qG,gB aV,gE zT,gB gn]
def uG:eF e9:=(.name 3 (z 6054315))
def uH:CB e9:= .K (.ite (.not (.val (.c 1 6077879 [(.v 2 6079534),(.g 0 6080445)] 6077896)) (z 6077296)) (.K (.t (.v 2 6100977) 6099927) .nil) .nil ⟨270,12,271,27⟩) (.K (.unpack (.m "get" (.attr (.v 0 6124836) .table (z 6124842)) 6124846 6124871 [(.attr (.v 2 6127101) .number (z 6127108)),(.t 6129070 [(.neg 1 0 (z 6129213) (z 6129363)),(.o 6129819)])]) [(4,(z 6121822)),(5,(z 6123629))] 0 (z 6121829) (z 6121871)) (.K (.ite (.q (.v 4 6144775) .NotEq (.attr (.v 2 6146883) .generation (z 6146894)) 6144794) (.K (.t (.o 6168477) 6167427) .nil) .nil ⟨273,12,274,27⟩) (.K (.a 2 (.v 5 6190374) 6189316 6189324) .nil)))
def lY:CB e9:= .K (.a 2 (.v 1 6032270) 6031212 6031220) (.K (.for_ uG (.c 3 6055374 [(.g 2 6056284)] 6055385) uH ⟨269,8,275,24⟩) (.K (.t (.ifexp (.val (.c 1 6213483 [(.v 2 6215138),(.g 0 6216049)] 6213500)) (.o 6212269) (.v 2 6218460) (z 6212310)) 6211260) .nil))
theorem vN:DT e9 467 466 2 lY:=dm (tM 37 1) ji
def qI:Fn:=bZ "Lookup.get" (tM 37 2) ["self","head","key"] []
def qJ:CB qI:= .K (.t (.m "fetch" (.v 0 6279769) 6279775 6279790 [(.m "get" (.v 1 6281430) 6281434 6281439 [(.v 2 6282788)])]) 6278740) .nil
theorem z9:DT qI 474 473 3 qJ:=dm (tM 37 2) ji
def yS:Fn:=bZ "kind_of" (tF 33) ["value"] [gB zV,gB aV,gB sH,gE Dz,gE zU,gE FD,gB m4,gB gW,gE yR,gE qG]
def sK:CB yS:= .K (.ite (.q (.v 0 4861062) .Is (.o 4862420) 4861070) (.K (.t (.s "null" 4884771) 4883721) .nil) .nil ⟨216,4,217,21⟩) (.K (.ite (.val (.c 1 4906067 [(.v 0 4907723),(.g 0 4908779)] 4906080)) (.K (.t (.s "truth" 4929772) 4928722) .nil) .nil ⟨218,4,219,22⟩) (.K (.ite (.val (.c 1 4951067 [(.v 0 4952723),(.g 2 4953778)] 4951079)) (.K (.t (.s "int" 4974770) 4973720) .nil) .nil ⟨220,4,221,20⟩) (.K (.ite (.val (.c 1 4996067 [(.v 0 4997723),(.g 3 4998782)] 4996083)) (.K (.t (.s "real" 5019771) 5018721) .nil) .nil ⟨222,4,223,21⟩) (.K (.ite (.val (.c 1 5041067 [(.v 0 5042723),(.g 4 5043779)] 5041080)) (.K (.t (.s "name" 5064771) 5063721) .nil) .nil ⟨224,4,225,21⟩) (.K (.ite (.val (.c 1 5086067 [(.v 0 5087723),(.g 5 5088781)] 5086082)) (.K (.t (.s "string" 5109773) 5108723) .nil) .nil ⟨226,4,227,23⟩) (.K (.ite (.val (.c 1 5131067 [(.v 0 5132723),(.g 6 5133779)] 5131080)) (.K (.t (.s "array" 5154772) 5153722) .nil) .nil ⟨228,4,229,22⟩) (.K (.ite (.val (.c 1 5176067 [(.v 0 5177723),(.g 7 5178779)] 5176080)) (.K (.t (.s "dict" 5199771) 5198721) .nil) .nil ⟨230,4,231,21⟩) (.K (.ite (.val (.c 1 5221067 [(.v 0 5222723),(.g 8 5223781)] 5221082)) (.K (.t (.s "stream" 5244773) 5243723) .nil) .nil ⟨232,4,233,23⟩) (.K (.ite (.val (.c 1 5266067 [(.v 0 5267723),(.g 9 5268784)] 5266085)) (.K (.t (.s "ref" 5289770) 5288720) .nil) .nil ⟨234,4,235,20⟩) (.K (.dead (bA (bg 0 (tF 33)) 10)) .nil))))))))))
theorem yT:DT yS 433 432 1 sK:=dm (tF 33) ji
def qK:Fn:=bZ "told_plain" (tF 34) ["kind","value"] [gB lX]
def qL:CB qK:= .K (.ite (.q (.v 0 5356061) .Eq (.s "null" 5357271) 5356071) (.K (.t (.t 5379774 [(.s "null" 5379922)]) 5378724) .nil) .nil ⟨238,4,239,24⟩) (.K (.ite (.q (.v 0 5401061) .Eq (.s "truth" 5402272) 5401072) (.K (.t (.t 5424793 [(.s "truth" 5424923),(.ifexp (.val (.v 1 5427035)) (.i 1 5426276) (.i 0 5428692) (z 5426292))]) 5423743) .nil) .nil ⟨240,4,241,43⟩) (.K (.ite (.q (.v 0 5446061) .Eq (.s "int" 5447270) 5446070) (.K (.t (.t 5469779 [(.s "int" 5469921),(.v 1 5470978)]) 5468729) .nil) .nil ⟨242,4,243,29⟩) (.K (.ite (.q (.v 0 5491061) .Eq (.s "real" 5492271) 5491071) (.K (.dead (bA (bg 0 (bA (bg 0 (tF 34)) 3)) 0)) .nil) .nil ⟨244,4,245,48⟩) (.K (.ite (.q (.v 0 5536061) .Eq (.s "name" 5537271) 5536071) (.K (.t (.t 5559785 [(.s "name" 5559922),(.attr (.v 1 5561129) .text (z 5561134))]) 5558735) .nil) .nil ⟨246,4,247,35⟩) (.K (.ite (.q (.v 0 5581061) .Eq (.s "string" 5582273) 5581073) (.K (.t (.t 5604796 [(.s "string" 5604924),(.c 0 5606431 [(.attr (.v 1 5607337) .octets (z 5607344))] 5606445)]) 5603746) .nil) .nil ⟨248,4,249,46⟩) (.K (.t (.t 5626700 [(.s "ref" 5626817),(.attr (.v 1 5627874) .number (z 5627881)),(.attr (.v 1 5629988) .generation (z 5629999))]) 5625650) .nil))))))
theorem Aa:DT qK 440 439 2 qL:=dm (tF 34) ji
def pH:Fn:=jF "told" (zM (tF 35)) ["value","kind"] [.cell,.local] false [gC vM,gB Hl,gB sJ,gC bR,gB lX,gC xC] zk
def m5:Fn:=jF "told" ⟨.function,[(".0",.local),("part",.local),("told_objects",.globalImplicit)],false,false,[]⟩ ["part"] [.local] true [gC bR] zk
noncomputable def qM:Scope:=⟨.function,[(".0",.local),("part",.local),("told_objects",.globalImplicit)],false,false,[]⟩
theorem Ab:cE pH m5 qM none:=kj zk zk
def jN:Fn:=jF "told" ⟨.function,[(".0",.local),("key",.local),("told_objects",.globalImplicit),("value",.cell)],false,false,[]⟩ ["key","value"] [.local,.cell] true [gC bR] zk
noncomputable def qN:Scope:=⟨.function,[(".0",.local),("key",.local),("told_objects",.globalImplicit),("value",.free)],false,false,[]⟩
theorem Ac:cE pH jN qN (some (0,1,"value")):=qx zk zk zk
def FF:eF m5:=(.name 0 (z 5723762))
def FG:CE m5:=(.c 0 5720297 [(.v 0 5722252)] 5720303)
def yU:CT jN:=(.q (.u (.v 1 5774199) (.v 0 5775103) 5774204) .IsNot (.o 5776916) 5774216)
def yV:eF jN:=(.name 0 (z 5770573))
def yW:CE jN:=(.t 5765165 [(.v 0 5765288),(.c 0 5766052 [(.u (.v 1 5768008) (.v 0 5768912) 5768013)] 5766064)])
def Ad:CB pH:= .K (.a 1 (.c 0 5671668 [(.v 0 5672874)] 5671675) 5670608 5670625) (.K (.ite (.q (.v 1 5693561) .Eq (.s "array" 5694772) 5693572) (.K (.t (.r (.t 5717275 [(.s "array" 5717423)]) .Add (.c 1 5719233 [(.listcomp (G:=m5) FF none FG (.v 0 5724971) qM none (z 5720172) Ab)] 5719273) 5717323) 5716273) .nil) .nil ⟨253,4,254,73⟩) (.K (.ite (.q (.v 1 5738561) .Eq (.s "dict" 5739771) 5738571) (.K (.t (.r (.t 5762274 [(.s "dict" 5762422)]) .Add (.c 1 5764082 [(.listcomp (G:=jN) yV (some yU) yW (.c 2 5771633 [(.v 0 5772689)] 5771640) qN (some (0,1,"value")) (z 5765067) Ac)] 5764168) 5762368) 5761318) .nil) .nil ⟨255,4,256,118⟩) (.K (.ite (.q (.v 1 5783561) .Eq (.s "stream" 5784773) 5783573) (.K (.t (.t 5807322 [(.s "stream" 5807424),(.c 3 5808938 [(.attr (.v 0 5810894) .head (z 5810899))] 5808950),(.c 4 5812857 [(.attr (.v 0 5813763) .octets (z 5813770))] 5812871)]) 5806272) .nil) .nil ⟨257,4,258,72⟩) (.K (.t (.c 5 5829171 [(.v 1 5830826),(.v 0 5831733)] 5829184) 5828134) .nil))))
theorem MS:(Ad:CB pH).b=bg 0 (tF 35):=zk
theorem Hm (W:WW):ic pH Ω.w Ω.b 445 (.ref 444) (Ad:CB pH).b 1 fun vv=>pH.names.zip vv:=
 m0 (st:=tF 35) (q:="told") (df:= .none) (pm:=ji) W zk zk (by rw[MS];kernel_rfl) zk rfl (fun vv hn=>by obtain⟨v0,rfl⟩:=xt hn;kernel_rfl) (yN zk) zk (jG zk)
def de:Fn:=bZ "name_text" (tF 50) ["octets","at","signs","place","code","high","low"] [gB bO,gE Jt,gE zW,gB MR]
def qO:CT de:=(.q (.v 3 7494015) .Lt (.c 0 7495221 [(.v 0 7495828)] 7495229) 7494029)
def qP:CB de:= .K (.a 4 (.u (.v 0 7517271) (.v 3 7518327) 7517278) 7516212 7516228) (.K (.a 3 (.r (.v 3 7539921) .Add (.i 1 7541125) 7539925) 7538713 7538725) (.K (.ite (.all .And [(.q (.v 4 7561665) .Eq (.g 1 7562873) 7561673),(.q (.r (.v 3 7564233) .Add (.i 1 7565437) 7564237) .Lt (.c 0 7566043 [(.v 0 7566650)] 7566051) 7564251)] (z 7561701)) (.K (.a 5 (.c 2 7585378 [(.u (.v 0 7586885) (.v 3 7587941) 7586892)] 7585393) 7584316 7584343) (.K (.a 6 (.c 2 7607727 [(.u (.v 0 7609234) (.r (.v 3 7610290) .Add (.i 1 7611494) 7610294) 7609245)] 7607746) 7606815 7606846) (.K (.ite (.all .And [(.q (.v 5 7629769) .GtE (.i 0 7630974) 7629774),(.q (.v 6 7631882) .GtE (.i 0 7632937) 7631887)] (z 7629787)) (.K (.a 4 (.r (.r (.i 16 7653475) .Mult (.v 5 7654232) 7653482) .Add (.v 6 7655288) 7653488) 7652420 7652438) (.K (.a 3 (.r (.v 3 7676129) .Add (.i 2 7677333) 7676133) 7674921 7674933) .nil)) .nil ⟨339,12,341,33⟩) .nil))) .nil ⟨336,8,341,33⟩) (.K (.ite (.q (.v 4 7696665) .Eq (.i 0 7697870) 7696670) (.K (.dead (bA (bg 0 (bA (bg 0 (bA (bg 0 (tF 50)) 2)) 3)) 0)) .nil) .nil ⟨342,8,343,59⟩) (.K (.expr (.m "append" (.v 2 7741213) 7741220 7741231 [(.c 3 7743174 [(.v 4 7743779)] 7743180)]) (z 7741231)) .nil))))
def lZ:CB de:= .K (.a 2 (.l 7449314 []) 7448109 7448114) (.K (.a 3 (.i 0 7471813) 7470609 7470613) (.K (.while_ qO qP ⟨333,4,344,31⟩) (.K (.t (.m "join" (.s "" 7764163) 7764168 7764175 [(.v 2 7765374)]) 7763125) .nil)))
theorem BL:(lZ:CB de).b=bg 0 (tF 50):=zk
theorem BM (W:WW):eP de Ω.w Ω.b 556 (.ref 555) (lZ:CB de).b 2 fun vv=>de.names.zip (vv++[]):=
 fO (st:=tF 50) (q:="name_text") (df:=(.ref 549)) (pm:=nD) W zk zk (by rw[BL];kernel_rfl) zk rfl (fun s vv X hn=>by obtain⟨v0,v1,rfl⟩:=By hn;show im X (T:=549) (items:=[(.int (-1) 924)]) (ps:=[⟨"octets",none,(z 7427120)⟩,⟨"at",none,(z 7428324)⟩]) zk rfl zk zk (fun fd hp hk=>by obtain⟨⟩:=fd;cases hp;cases hk;show⟨_,rfl,rfl⟩)) zk (jG zk)
def tJ:Fn:=bZ "run_token" (tF 55) ["cursor","at","run","number"] [gC kY,gB sH,gB aV]
def l5:CB tJ:= .K (.a 2 (.m "take_regular" (.v 0 8956516) 8956529 8956531 []) 8955607 8955631) (.K (.a 3 (.c 0 8979475 [(.v 2 8981429)] 8979480) 8978110 8978130) (.K (.ite (.q (.v 3 9001063) .Is (.o 9002571) 9001071) (.K (.t (.t 9024782 [(.s "word" 9024922),(.v 2 9026127),(.v 1 9026881)]) 9023732) .nil) .nil ⟨400,4,401,32⟩) (.K (.ite (.val (.c 2 9046067 [(.v 3 9047724),(.g 1 9048929)] 9046080)) (.K (.t (.t 9069784 [(.s "int" 9069921),(.v 3 9070979),(.v 1 9072183)]) 9068734) .nil) .nil ⟨402,4,403,34⟩) (.K (.t (.t 9091681 [(.s "real" 9091818),(.v 3 9093026),(.v 1 9094230)]) 9090631) .nil))))
theorem tK:DT tJ 589 588 2 l5:=dm (tF 55) nD
def iQ:Fn:=bZ "delimited_token" (tF 56) ["cursor","code","at"] [gE BJ,gC zY,gE BH,gE DB,gE EH,gE xA,gE BI,gB lX]
def cW:CB iQ:= .K (.ite (.q (.v 1 9136061) .Eq (.g 0 9137270) 9136070) (.K (.expr (.m "take" (.v 0 9158714) 9158719 9158721 []) (z 9158721)) (.K (.t (.t 9182315 [(.s "name" 9182422),(.c 1 9183633 [(.m "take_regular" (.v 0 9185140) 9185153 9185155 []),(.v 2 9188609)] 9183660),(.v 2 9189364)]) 9181265) .nil)) .nil ⟨406,4,408,65⟩) (.K (.ite (.q (.v 1 9203561) .Eq (.g 2 9204770) 9203570) (.K (.expr (.m "take" (.v 0 9226214) 9226219 9226221 []) (z 9226221)) (.K (.t (.t 9249796 [(.s "string" 9249924),(.c 3 9251433 [(.v 0 9252640)] 9251441),(.v 2 9253995)]) 9248746) .nil)) .nil ⟨409,4,411,46⟩) (.K (.ite (.val (.m "skip" (.v 0 9271063) 9271068 9271075 [(.bytes [60,60] 0 (z 9272874))])) (.K (.t (.t 9294784 [(.s "sign" 9294922),(.bytes [60,60] 0 (z 9296129)),(.v 2 9297183)]) 9293734) .nil) .nil ⟨412,4,413,34⟩) (.K (.ite (.val (.m "skip" (.v 0 9316063) 9316068 9316075 [(.bytes [62,62] 0 (z 9317874))])) (.K (.t (.t 9339784 [(.s "sign" 9339922),(.bytes [62,62] 0 (z 9341129)),(.v 2 9342183)]) 9338734) .nil) .nil ⟨414,4,415,34⟩) (.K (.ite (.q (.v 1 9361061) .Eq (.g 4 9362269) 9361069) (.K (.expr (.m "take" (.v 0 9383714) 9383719 9383721 []) (z 9383721)) (.K (.t (.t 9407296 [(.s "hex" 9407421),(.c 5 9408483 [(.v 0 9410140)] 9408491),(.v 2 9411495)]) 9406246) .nil)) .nil ⟨416,4,418,46⟩) (.K (.ite (.q (.v 1 9428561) .In (.g 6 9429770) 9428570) (.K (.expr (.m "take" (.v 0 9451214) 9451219 9451221 []) (z 9451221)) (.K (.t (.t 9474792 [(.s "sign" 9474922),(.c 7 9476129 [(.l 9477036 [(.v 1 9477185)])] 9476137),(.v 2 9478391)]) 9473742) .nil)) .nil ⟨419,4,421,42⟩) (.K (.dead (bA (bg 0 (tF 56)) 6)) .nil))))))
theorem fa:DT iQ 596 595 3 cW:=dm (tF 56) nD
def qQ:Fn:=bZ "next_token" (tF 57) ["cursor","at","code"] [gE BJ,gE BH,gE vL,gE EH,gE DA,gE BI,gC pG,gC zZ]
def kr:CB qQ:= .K (.expr (.m "skip_white" (.v 0 9540610) 9540621 9540623 []) (z 9540623)) (.K (.a 1 (.attr (.v 0 9563865) .at (z 9563868)) 9563106 9563118) (.K (.a 2 (.m "peek" (.v 0 9586667) 9586672 9586674 []) 9585608 9585624) (.K (.ite (.q (.v 2 9608561) .Eq (.neg 1 0 (z 9609767) (z 9609917)) 9608567) (.K (.t (.t 9632281 [(.s "end" 9632421),(.bytes [] 0 (z 9633476)),(.v 1 9634230)]) 9631231) .nil) .nil ⟨427,4,428,31⟩) (.K (.ite (.all .Or [(.q (.v 2 9653561) .Eq (.g 0 9654770) 9653570),(.q (.v 2 9656128) .Eq (.g 1 9657337) 9656137),(.q (.v 2 9658695) .Eq (.g 2 9659910) 9658710),(.q (.v 2 9662319) .Eq (.g 3 9663527) 9662327),(.q (.v 2 9665037) .Eq (.g 4 9666248) 9665048),(.q (.v 2 9668208) .In (.g 5 9669417) 9668217)] (z 9653668)) (.K (.t (.c 6 9677280 [(.v 0 9679687),(.v 2 9680893),(.v 1 9681797)] 9677298) 9676248) .nil) .nil ⟨429,4,430,48⟩) (.K (.t (.c 7 9699170 [(.v 0 9700677),(.v 1 9701881)] 9699182) 9698132) .nil)))))
theorem qR:DT qQ 603 602 1 kr:=dm (tF 57) nD
def yX:Fn:=bZ "is_sign" (tF 58) ["token","sign"] []
def yY:CB yX:= .K (.t (.allv .And [(.q (.u (.v 0 9744166) (.i 0 9745068) 9744169) .Eq (.s "sign" 9745979) 9744179),(.q (.u (.v 0 9747639) (.i 1 9748541) 9747642) .Eq (.v 1 9749450) 9747650)] (z 9744200)) 9743150) .nil
theorem FH:DT yX 610 609 2 yY:=dm (tF 58) nD
def qS:Fn:=bZ "Frame.__init__" (tM 61 0) ["self","mark"] []
def qT:CB qS:= .K (.setattr (.v 1 9880524) (.v 0 9878712) .mark (z 9878717) (z 9878724)) (.K (.setattr (.l 9903173 []) (.v 0 9901212) .items (z 9901218) (z 9901223)) .nil)
theorem Ae:DT qS 624 623 2 qT:=dm (tM 61 0) nB
def iR:Fn:=bZ "Frame.wants_key" (tM 61 1) ["self"] [gB bO]
def iS:CB iR:= .K (.t (.allv .And [(.q (.attr (.v 0 9969769) .mark (z 9969774)) .Eq (.bytes [60,60] 0 (z 9971733)) 9969783),(.q (.r (.c 0 9973241 [(.attr (.v 0 9973846) .items (z 9973852))] 9973253) .Mod (.i 2 9975957) 9973257) .Eq (.i 0 9976712) 9973262)] (z 9969812)) 9968762) .nil
theorem qU:DT iR 631 630 1 iS:=dm (tM 61 1) nB
def vO:Fn:=bZ "is_whole" (tF 62) ["value"] [gB sH,gB aV,gB zV]
def pI:CB vO:= .K (.t (.allv .And [(.c 1 10014171 [(.v 0 10015827),(.g 0 10016882)] 10014183),(.not (.c 1 10019003 [(.v 0 10020659),(.g 2 10021715)] 10019016) (z 10018416)),(.q (.v 0 10023528) .GtE (.i 0 10024883) 10023533)] (z 10014234)) 10013184) .nil
theorem vP:DT vO 645 644 1 pI:=dm (tF 62) nB
def jO:Fn:=bZ "take_reference" (tF 63) ["cursor","number","probe","generation"] [gC fQ,gC kY,gC tG,gC zX]
def jP:CB jO:= .K (.a 2 (.c 0 10059318 [(.attr (.v 0 10060375) .data (z 10060380)),(.attr (.v 0 10062338) .at (z 10062341)),(.attr (.v 0 10063999) .end_ (z 10064003))] 10059354) 10058109 10058154) (.K (.expr (.m "skip_white" (.v 2 10080609) 10080620 10080622 []) (z 10080622)) (.K (.a 3 (.c 1 10105079 [(.m "take_regular" (.v 2 10107035) 10107048 10107050 [])] 10105101) 10103114 10103151) (.K (.expr (.m "skip_white" (.v 2 10125609) 10125620 10125622 []) (z 10125622)) (.K (.ite (.all .Or [(.not (.val (.c 2 10149169 [(.v 3 10150530)] 10149181)) (z 10148581)),(.q (.m "take_regular" (.v 2 10152790) 10152803 10152805 []) .NotEq (.bytes [82] 0 (z 10156413)) 10152813)] (z 10148613)) (.K (.t (.v 1 10172271) 10171221) .nil) .nil ⟨451,4,452,21⟩) (.K (.setattr (.attr (.v 2 10194921) .at (z 10194924)) (.v 0 10193110) .at (z 10193113) (z 10193124)) (.K (.t (.c 3 10216670 [(.v 1 10218177),(.v 3 10219389)] 10216690) 10215640) .nil))))))
theorem sL:DT jO 652 651 2 jP:=dm (tF 63) nB
def ow:Fn:=bZ "plain_value" (tF 65) ["cursor","token","lets_references","kind","worth","at"] [gC qH,gC Jw,gC FE,gE xB]
def jo:CB ow:= .K (.unpack (.v 1 10443327) [(3,(z 10440608)),(4,(z 10441515)),(5,(z 10442569))] 0 (z 10440619) (z 10440627)) (.K (.ite (.all .And [(.q (.v 3 10463561) .Eq (.s "int" 10464770) 10463570),(.q (.v 4 10466280) .GtE (.i 0 10467635) 10466285),(.val (.v 2 10468555))] (z 10463605)) (.K (.t (.c 0 10487279 [(.v 0 10489536),(.v 4 10490743)] 10487294) 10486244) .nil) .nil ⟨465,4,466,44⟩) (.K (.ite (.all .Or [(.q (.v 3 10508561) .Eq (.s "int" 10509770) 10508570),(.q (.v 3 10511128) .Eq (.s "real" 10512338) 10511138)] (z 10508588)) (.K (.t (.v 4 10532270) 10531220) .nil) .nil ⟨467,4,468,20⟩) (.K (.ite (.q (.v 3 10553561) .Eq (.s "name" 10554771) 10553571) (.K (.t (.c 1 10577269 [(.v 4 10578025)] 10577276) 10576226) .nil) .nil ⟨469,4,470,26⟩) (.K (.ite (.q (.v 3 10598561) .Eq (.s "string" 10599773) 10598573) (.K (.t (.c 2 10622271 [(.v 4 10623327)] 10622278) 10621228) .nil) .nil ⟨471,4,472,28⟩) (.K (.ite (.q (.v 3 10643561) .Eq (.s "hex" 10644770) 10643570) (.K (.t (.c 2 10667271 [(.v 4 10668327),(.bool true 0 (z 10669383))] 10667284) 10666234) .nil) .nil ⟨473,4,474,34⟩) (.K (.ite (.q (.v 3 10688561) .Eq (.s "word" 10689771) 10688571) (.K (.t (.c 3 10712275 [(.v 4 10713931),(.v 5 10714985)] 10712286) 10711236) .nil) .nil ⟨475,4,476,36⟩) (.K (.ite (.q (.v 3 10733561) .Eq (.s "end" 10734770) 10733570) (.K (.dead (bA (bg 0 (bA (bg 0 (tF 65)) 7)) 0)) .nil) .nil ⟨477,4,478,64⟩) (.K (.dead (bA (bg 0 (tF 65)) 8)) .nil))))))))
theorem oy:DT ow 666 665 3 jo:=dm (tF 65) nB
def eG:Fn:=jF "dict_of" (zM (tF 66)) ["items","found","spot"] [.local,.cell,.local] false [gB bO,gB gn] zk
def fb:Fn:=jF "dict_of" ⟨.function,[(".0",.local),("key",.local),("found",.cell)],false,false,[]⟩ ["key","found"] [.local,.cell] true [] zk
noncomputable def k8:Scope:=⟨.function,[(".0",.local),("key",.local),("found",.free)],false,false,[]⟩
theorem uI:cE eG fb k8 (some (1,1,"found")):=qx zk zk zk
def vQ:eF eG:=(.name 2 (z 10846212))
def vR:CB eG:= .K (.setitem (.u (.v 0 10872639) (.r (.v 2 10873544) .Add (.i 1 10874598) 10873548) 10872649) (.v 1 10868713) (.attr (.u (.v 0 10869619) (.v 2 10870524) 10869625) .text (z 10869630)) (z 10868731) (z 10868749)) .nil
def qV:CT fb:=(.q (.u (.v 1 10897253) (.v 0 10898157) 10897258) .IsNot (.o 10899970) 10897270)
def qW:CE fb:=(.v 0 10891815)
def qX:CE fb:=(.u (.v 1 10892572) (.v 0 10893476) 10892577)
def sM:CB eG:= .K (.a 1 (.dict0 (z 10824314)) 10823109 10823114) (.K (.for_ vQ (.c 1 10847421 [(.i 0 10848323),(.c 0 10848778 [(.v 0 10849384)] 10848785),(.i 2 10850588)] 10847439) vR ⟨482,4,483,49⟩) (.K (.t (.dictcomp (G:=fb) 0 (z 10894835) (some qV) qW qX (.v 1 10895894) k8 (some (1,1,"found")) (z 10891721) uI) 10890671) .nil))
theorem FI:(sM:CB eG).b=bg 0 (tF 66):=zk
theorem FJ (W:WW):ic eG Ω.w Ω.b 671 (.ref 670) (sM:CB eG).b 1 fun vv=>eG.names.zip vv:=
 m0 (st:=tF 66) (q:="dict_of") (df:= .none) (pm:=nB) W zk zk (by rw[FI];kernel_rfl) zk rfl (fun vv hn=>by obtain⟨v0,rfl⟩:=xt hn;kernel_rfl) (yN zk) zk (jG zk)
def oz:Fn:=bZ "close_frame" (tF 67) ["frames","worth","at","opening","frame"] [gC DE]
def jp:CB oz:= .K (.a 3 (.ifexp (.q (.v 1 10938327) .Eq (.bytes [93] 0 (z 10939685)) 10938335) (.bytes [91] 0 (z 10937118)) (.bytes [60,60] 0 (z 10941196)) (z 10937146)) 10935611 10935646) (.K (.ite (.all .Or [(.q (.v 0 10958563) .Eq (.l 10960069 []) 10958569),(.q (.attr (.u (.v 0 10960979) (.neg 1 0 (z 10962032) (z 10962182)) 10960983) .mark (z 10960988)) .NotEq (.v 3 10963849) 10960999)] (z 10958599)) (.K (.dead (bA (bg 0 (bA (bg 0 (tF 67)) 1)) 0)) .nil) .nil ⟨487,4,488,63⟩) (.K (.a 4 (.m "pop" (.v 0 11004318) 11004322 11004324 []) 11003109 11003124) (.K (.ite (.q (.v 3 11026064) .Eq (.bytes [91] 0 (z 11027722)) 11026072) (.K (.t (.attr (.v 4 11049770) .items (z 11049776)) 11048726) .nil) .nil ⟨490,4,491,26⟩) (.K (.ite (.not (.val (.m "wants_key" (.v 4 11071666) 11071676 11071678 [])) (z 11071078)) (.K (.dead (bA (bg 0 (bA (bg 0 (tF 67)) 4)) 0)) .nil) .nil ⟨492,4,493,51⟩) (.K (.t (.c 0 11116668 [(.attr (.v 4 11117874) .items (z 11117880))] 11116681) 11115631) .nil)))))
theorem oA:DT oz 678 677 3 jp:=dm (tF 67) nB
structure k9 (σ:AS) (v:AV) (t:Value):Prop where
 run:∀(Up:List Env) (g:Fz) (h:Shared) (u:Value),eD Ω.b Up g->RS Ω.p Ω.w g σ h->(KK Ω.w.params).In h.heap->er u=v->∃H,KitX (KK Ω.w.params) u t H/\H h.heap/\u≠.builtin "__main__.__loader__#opaque"
theorem iT {n:Int}:k9 σ (.int n) (.type "int"):=⟨fun Up g h u O rs X e=>by obtain⟨t,rfl⟩:=aI e;show(Np _ kitx_int trivial nofun)⟩
theorem BN:k9 σ .none (.type "NoneType"):=⟨fun Up g h u O rs X e=>by rw[dU e];show(Np _ kitx_none trivial nofun)⟩
theorem BO {p:Addr} {xs:List AV} (hp:σ p=some (.list xs)):k9 σ (.ref p) (.type "list"):=⟨fun Up g h u O rs X e=>by
 rw[ah e];show aH (aZ rs hp) fun vs n hl he hg=>?_;show(Np _ kitx_list (aS _ hl rfl) nofun)⟩
theorem fc {p:Addr} {ep:Nat} {xs:List (AK×AV)} (hp:σ p=some (.dict ep xs)):k9 σ (.ref p) (.type "dict"):=⟨fun Up g h u O rs X e=>by
 rw[ah e];obtain⟨kvs,⟨o,es,ho,hc,_⟩,he,hg,hm⟩:=co rs O hp;show⟨_,kitx_dict,⟨o,ho,hc.1⟩,nofun⟩⟩
noncomputable def DF (K:Frag) (D:Addr):Bool:=plainGet K D "__class__"&&hasDictIn K D&&Fq (findIn K (.ref D) "__class__") "object.__class__"&&
 Fq (specialIn K (.builtin "object.__class__") "__get__") "getset_descriptor.__get__"&&(takesIn K (.builtin "object.__class__")==some true)&&(mroIn K D (.type "object")==some true)
theorem vS {a C N:Addr} {m:List (Attr×AV)} (ha:σ a=some (.inst C N)) (hN:σ N=some (.ns m)) (ok:DF (KK Ω.w.params) C=true):k9 σ (.ref a) (.ref C):=⟨fun Up g h u O rs X e=>by
 rw[ah e];obtain⟨_,oa,hoa,e1,e2,e3,e4⟩:=rs.own a _ ha;obtain⟨gN,oN,hoN,es,nn,rfl,hm⟩:=rs.own N _ hN;have I:InstAt h.heap a oa C (some (dictOf es nn)):=⟨hoa,e1,e2,by rw[e3];show hoN⟩;unfold DF at ok;simp only [nH] at ok;obtain⟨⟨⟨⟨⟨k1,k2⟩,k3⟩,k4⟩,k5⟩,k6⟩:=ok;have h3:findIn (KK Ω.w.params) (.ref C) "__class__"=some (some (.builtin "object.__class__")):=qq k3;have h4:specialIn (KK Ω.w.params) (.builtin "object.__class__") "__get__"=some (some (.builtin "getset_descriptor.__get__")):=qq k4;show(Np _ (kitx_own k1 k2 h3 h4 (Bi k5) (Bi k6)) I nofun)⟩
theorem Hn (W:WW) {v c:AV} {t cv:Value} {b:Bool} (hv:k9 σ v t) (hc:∀u,er u=c->u=cv) (e:kitOne (KK Ω.w.params) t cv=some b) (hq:Q (.bool b) σ):aa k (.fn "isinstance") [v,c] σ Q X:=by
 show⟨fun A Up g s fv vv hA hH R O rs hf hvv=>?_⟩;rw[dL hf];show aH (GI hvv) fun u u' hr2 h1 h2=>?_;rw[hr2];rw[hc u' h2];have X:(KK Ω.w.params).In s.heap:=fun a o q=>rs.keep a o (O.keeps a o (W.inK a o q));show j8 (hv.run Up g s u O rs X h1) fun H Z hH' ne=>?_;show kia_one Z X hH' e ne fun tk=>(aS σ rs.tok hq)
theorem cH (W:WW) {v:AV} {t:Value} {T:String} {b:Bool} (hv:k9 σ v t) (e:kitOne (KK Ω.w.params) t (.type T)=some b) (hq:Q (.bool b) σ):aa k (.fn "isinstance") [v,.typ T] σ Q X:=
 Hn W hv (fun u h=>eO h) e hq
theorem m6 (W:WW) {v:AV} {t:Value} {C:Addr} {b:Bool} (hv:k9 σ v t) (e:kitOne (KK Ω.w.params) t (.ref C)=some b) (hq:Q (.bool b) σ):aa k (.fn "isinstance") [v,.ref C] σ Q X:=
 Hn W hv (fun u h=>ah h) e hq
example (P:Params):kitOne (KK P) (.type "int") (.ref 309)=some false:=zk
example (P:Params):DF (KK P) 351=true:=zk
example (P:Params):kitOne (KK P) (.ref 351) (.type "list")=some false:=zk
example (P:Params):kitOne (KK P) (.ref 351) (.ref 351)=some true:=zk
example (P:Params):kitOne (KK P) (.type "bool") (.type "int")=some true:=zk
example (P:Params):kitOne (KK P) (.type "NoneType") (.type "int")=some false:=zk
end
set_option tactic.hygienic false
noncomputable section
open MeetsSeq
theorem cX {B:LU} {i:Int} {a:Nat} (hi:i=a) (hz:B.length<=1000000) (hq:Q (.bytes (B.drop a)) σ):ik k (.bytes B) (.int i) .none .none σ Q X:=by
 subst hi;show sw hz hq
theorem Jx (W:WW) {B:LU} {Q:ax}:∀(ds:LU) (n m:Nat) (x:Option AV),(∀c∈ds,gw c=true)->
 (∀x,Q .next [some (.bytes B),some (.int 0),some (.int (ay n ds)),some (.int ((m+ds.length:Nat):Int)),some (.int (-1)),x] σ)->
 bU (kZ) k7 (fun _=>True) k Q (ds.map fun c=> .int c.toNat) [some (.bytes B),some (.int 0),some (.int n),some (.int m),some (.int (-1)),x] σ:=by
 intro ds;induction ds with
 | nil=>intro n m x _ h;show h x
 | cons d ds ih=>
  intro n m x hw h;have hd1:gw d=true:=hw d bJ;show aL (qF hd1) fun d1 d2=>?_;show Br.neg (by rw[xg];lia) ?_;walk_at "w";show Br.pos (yz zo) ?_;show Br.pos (yz zo) ?_;show⟨IntMulOk.of_left zd,?_⟩;show Br.neg (uw zo) ?_;show⟨trivial,?_⟩;have en:((10:Int)*(n:Int)+(d.toNat:Int)-48)=((n*10+(d.toNat-48):Nat):Int):=zo;rw[en];show ih (n*10+(d.toNat-48)) (m+1) _ (fun c hc=>hw c (du _ hc)) fun x=>?_;have el:m+1+ds.length=m+(d::ds).length:=by simp;lia
  rw[el];show h x
theorem l6 (W:WW) {ds:LU} (hw:∀c∈ds,gw c=true) (h0:ds≠[]) (h40:ds.length<=40) (hq:Q (.int (ay 0 ds)) σ):aa (k+1) (.ref 334) [.bytes ds] σ Q X:=by
 obtain⟨d,r,rfl⟩:∃d r,ds=d::r:=IN h0;have hd1:gw d=true:=hw d bJ;show aL (qF hd1) fun d1 d2=>?_;show(af W e8 (iq W) rfl zd ?_).call;show am zo ?_;show Br.pos (yz zs) ?_;show cc (n:=0) rfl rfl zo ?_;show Br.neg (by rw[xg];lia) ?_;show cc (n:=0) rfl rfl zo ?_;show Br.neg (by rw[xg];lia) ?_;show cX (a:=0) rfl zo ?_;show eQ.of kg trivial ?_;rw[List.drop_zero];show Jx W (d::r) 0 0 none hw fun x=>?_;show Br.neg (by rw[xg];simp;lia) ?_;show Br.neg (uw zo) ?_;show cc (n:=0) rfl rfl zo ?_;show Br.neg (by rw[xg];lia) ?_;show Br.pos (yz zo) ?_;show hq
theorem l7 (W:WW) (hq:Q .none σ):aa (k+1) (.ref 334) [.bytes []] σ Q X:=by
 show(af W e8 (iq W) rfl zd ?_).call;show am zs ?_;show Br.neg (by rfl) ?_;walk_at "w";show cX (a:=0) rfl zs ?_;show eQ.of kg trivial ?_;show Br.pos (by rfl) ?_;walk_at "w";show hq
theorem nO (W:WW) {d:UInt8} {r:LU} (hd:57<d.toNat) (hl:r.length<=1000) (hq:Q .none σ):aa (k+1) (.ref 334) [.bytes (d::r)] σ Q X:=by
 show(af W e8 (iq W) rfl zd ?_).call;show am zu ?_;show Br.pos (yz zs) ?_;show cc (n:=0) rfl rfl zu ?_;show Br.neg (by rw[xg];lia) ?_;show cc (n:=0) rfl rfl zu ?_;show Br.neg (by rw[xg];lia) ?_;show cX (a:=0) rfl zu ?_;show eQ.of kg trivial ?_;rw[List.drop_zero];show Br.neg (by rw[xg];lia) ?_;walk_at "w";show Br.pos (yz zo) ?_;show Br.neg (uw zo) ?_;show hq
theorem bV {p:Addr} {xs:List AV} {Q:AV->List AV->Prop} (h:σ p=some (.list xs)) (hq:Q (.fn "list.append") [.ref p]):kP (.ref p) "append" σ Q:=ij (jC h) PySem.F.plainAttrs_list PySem.F.slot_list_append PySem.F.type_list_append hq
theorem vT {p:Addr} {xs:List AV} {Q:AV->List AV->Prop} (h:σ p=some (.list xs)) (hq:Q (.fn "list.pop") [.ref p]):kP (.ref p) "pop" σ Q:=ij (jC h) PySem.F.plainAttrs_list PySem.F.slot_list_pop PySem.F.type_list_pop hq
theorem jQ {d:Addr} {ep:Nat} {xs:List (AK×AV)} {Q:AV->List AV->Prop} (h:σ d=some (.dict ep xs)) (hq:Q (.fn "dict.get") [.ref d]):kP (.ref d) "get" σ Q:=ij (Bu h) PySem.F.plainAttrs_dict PySem.F.slot_dict_get PySem.F.type_dict_get hq
theorem FK {x:Str} {Q:AV->List AV->Prop} (hq:Q (.fn "str.join") [.str x]):kP (.str x) "join" σ Q:=ij EE PySem.F.plainAttrs_str PySem.F.slot_str_join PySem.F.type_str_join hq
theorem aR {σ:AS} {a b:Addr} {o:AO} (h:σ a=none) (h':σ b=some o):a≠b:=fun e=>by rw[e,h'] at h;cases h
def AS.Sub (σ UH:AS):Prop:=∀a o,σ a=some o->UH a=some o
theorem AS.Sub.set {σ:AS} {a:Addr} {o:AO} (h:σ a=none):σ.Sub (σ.set a o):=fun b x e=>(AS.UK (ez (aR h e))).trans e
theorem AS.Sub.rfl {σ:AS}:σ.Sub σ:=fun _ _ e=>e
theorem AS.Sub.trans {a b c:AS} (h:a.Sub b) (h':b.Sub c):a.Sub c:=fun x o e=>h' x o (h x o e)
theorem RS.sub {g:Fz} {σ UH:AS} {h:Shared} (r:RS Ω.p Ω.w g UH h) (s:σ.Sub UH):RS Ω.p Ω.w g σ h:=⟨r.keep,fun a o e=>r.own a o (s a o e),r.calm⟩
abbrev Ub (Q:aG):aG:=fun v UH=>∃UI,UI.Sub UH/\Q v UI
theorem aa.forget {f:AV} {vs:List AV} (J:aa k f vs σ (Ub Q) X):aa k f vs σ Q X:=
 ⟨fun A Up g s fv vv h1 h2 h3 h4 h5 h6 h7=>dw (J.run A Up g s fv vv h1 h2 h3 h4 h5 h6 h7) (fun _ _ ⟨_,r,UI,s,q⟩=>⟨UI,r.sub s,q⟩) fun _ _ e=>e⟩
theorem Ho:∀(l:LU),Txt.join (Str.ofString "") (l.map fun c=>(⟨#[c.toNat]⟩:Str))=⟨(l.map (·.toNat)).toArray⟩:=fun l=>by
 have:=PyProof.Rows.join_ones (l.map (·.toNat));rw[bq] at this;change Builtin.Str.glued _ _=_;rw[StrLaws.glued_eq_join];show this
noncomputable abbrev QB (c:UInt8):Str:=⟨#[c.toNat]⟩
theorem vU (W:WW) {B:LU} {at_:AV} {S:Addr} {Q:ax} (hB:B.length<=1000):∀(ds:LU) (i:Nat) (Uq:List Str) (x:Option AV) (σ:AS),(∀c∈ds,c≠35/\c≠0)->σ S=some (.list (Uq.map .str))->B.drop i=ds->i<=B.length->Uq.length=i->
 (∀x,Q .next [some (.bytes B),some at_,some (.ref S),some (.int B.length),x,none,none] (σ.set S (.list ((Uq++ds.map QB).map .str))))->
 aX (qO) qP k Q (ds.length+1) [some (.bytes B),some at_,some (.ref S),some (.int i),x,none,none] σ:=by
 intro ds;induction ds with
 | nil=>
  intro i Uq x σ hw hS hd hi ha h;have hl:B.length<=i:=by
   have:=congrArg List.length hd;rw[Fl] at this;simp at this;lia
  have e:i=B.length:=zo;subst e;show am zo ?_;show Br.neg (uw zo) ?_;have hx:=h x;rw[EA,Bo,AS.set_id hS] at hx;show hx
 | cons d ds ih=>
  intro i Uq x σ hw hS hd hi ha h;show ae (bI hd) fun lt e1 e2=>?_;show aL (hw d bJ) fun w1 w2=>?_;show am zo ?_;show Br.pos (yz zo) ?_;show cc (n:=i) rfl (Bf lt) zo ?_;rw[e1];show Br.neg (EG w1) ?_;walk_at "w";show Br.neg (EG w2) ?_;show bV hS ?_;show MO (by have:=d.toNat_lt;lia) ?_;show dx hS zm ?_;show⟨ih (i+1) (Uq++[QB d]) _ _ (fun c hc=>hw c (du _ hc)) (by rw[AS.UJ];simp) e2 zo zu fun x=>?_⟩
  . rw[AS.UL];have:=h x;simpa using this
theorem BP (W:WW) {B:LU} {at_:AV} (hB:B.length<=1000) (hw:∀c∈B,c≠35/\c≠0) (hq:Q (.str ⟨(B.map (·.toNat)).toArray⟩) σ):aa (k+1) (.ref 556) [.bytes B,at_] σ Q X:=by
 show aa.forget ?_;show(af W lZ (BM W) rfl zd ?_).call;show⟨Nat.zero_le _,fun S hS=>?_⟩;show⟨_,vU W hB B 0 [] none _ hw (by rw[AS.UJ];rfl) rfl (Nat.zero_le _) rfl fun x=>?_⟩;rw[AS.UL,Bg];show FK ?_;show Jq (ys:=B.map QB) AS.UJ ?_ ?_
 . have e1:((B.map QB).map (·.length)).sum=B.length:=by
    clear hw hB hq;induction B with
    | nil=>rfl
    | cons d r ih=>rw[dI,dI,List.sum_cons,ih,fF];change 1+r.length=_;lia
   rw[e1];change B.length+_*0<=_;lia
 show⟨σ,AS.Sub.set hS,?_⟩;have e:Txt.join (Str.ofString "") (B.map QB)=⟨(B.map (·.toNat)).toArray⟩:=Ho B;rw[e];show hq
theorem qY {c:UInt8} (h:gw c=true):qD c=true:=by
 show aL (qF h) fun h1 h2=>?_;simp [qD,qm,QA];omega
theorem AS.UM {σ:AS} {a b:Addr} {o:AO} (h:(σ.set a o) b=none):b≠a/\σ b=none:=by
 have:b≠a:=fun e=>by rw[e,AS.UJ] at h;cases h
 show⟨this,by rwa [AS.UK this] at h⟩
theorem AS.Sub.up {σ UH:AS} {a:Addr} {o:AO} (h:σ.Sub UH):(σ.set a o).Sub (UH.set a o):=fun b x e=>by
 by_cases z:b=a
 . subst z;rw[AS.UJ] at e⊢;show e
 . rw[AS.UK z] at e⊢;show h b x e
theorem m7 (W:WW):tu Ω σ 534 (.tup (([91,93,123,125]:List Int).map .int)):= .inr ⟨Mi,W.inK 534 _ zk,_,_,rfl,rfl⟩
theorem FL (W:WW) {c N:Addr} {D ds Us:LU} {p:Nat} {a:AV} (C:cV σ c N D p) (hw:∀c∈ds,gw c=true) (h0:ds≠[]) (h40:ds.length<=40) (hr:BE Us) (hd:D.drop p=ds++Us)
 (hq:∀T,(σ.set N (bb D (p+ds.length))) T=none->Q (.ref T) ((σ.set N (bb D (p+ds.length))).set T (.tup [.str "int",.int (ay 0 ds),a]))):aa (k+3) (.ref 589) [.ref c,a] σ Q X:=by
 have C':=C;obtain⟨q1,q2,q3,q4,q5⟩:=C;show(af W l5 (tK W) rfl zd ?_).call;show ad q1 q2 (f:=173) zk ?_;show dc W C' (fun c hc=>qY (hw c hc)) hr hd ?_;show l6 W hw h0 h40 ?_;left;show cH W iT (b:=true) zk ?_;left;show⟨zl,?_⟩;intro T hT;show hq T hT
theorem DG (W:WW) {c N:Addr} {D r Us:LU} {d:UInt8} {p:Nat} {a:AV} (C:cV σ c N D p) (hw:∀c∈d::r,qD c=true) (h57:57<d.toNat) (h40:r.length<=40) (hr:BE Us) (hd:D.drop p=d::r++Us)
 (hq:∀T,(σ.set N (bb D (p+(d::r).length))) T=none->Q (.ref T) ((σ.set N (bb D (p+(d::r).length))).set T (.tup [.str "word",.bytes (d::r),a]))):aa (k+3) (.ref 589) [.ref c,a] σ Q X:=by
 have C':=C;obtain⟨q1,q2,q3,q4,q5⟩:=C;show(af W l5 (tK W) rfl zd ?_).call;show ad q1 q2 (f:=173) zk ?_;show dc W C' hw hr hd ?_;show nO W h57 zo ?_;left;show⟨zl,?_⟩;intro T hT;show hq T hT
inductive Tk where
 | int (ds:LU) | word (d:UInt8) (r:LU) | name (r:LU) | opn | cls | arr | arrEnd
noncomputable def Tk.bytes:Tk->LU
 | .int ds=>ds
 | .word d r=>d::r
 | .name r=>47::r
 | .opn=>[60,60]
 | .cls=>[62,62]
 | .arr=>[91]
 | .arrEnd=>[93]
def Tk.ok (Us:LU):Tk->Prop
 | .int ds=>(∀c∈ds,gw c=true)/\ds≠[]/\ds.length<=40/\BE Us
 | .word d r=>(∀c∈d::r,qD c=true)/\57<d.toNat/\r.length<=40/\BE Us
 | .name r=>(∀c∈r,qD c=true/\c≠35/\c≠0)/\r.length<=40/\BE Us
 | _=>True
noncomputable def Tk.kind:Tk->Str
 | .int _=>"int"
 | .word _ _=>"word"
 | .name _=>"name"
 | _=>"sign"
noncomputable def bd (r:LU):Str:=⟨(r.map (·.toNat)).toArray⟩
noncomputable def Tk.worth:Tk->AV
 | .int ds=> .int (ay 0 ds)
 | .word d r=> .bytes (d::r)
 | .name r=> .str (bd r)
 | .opn=> .bytes [60,60]
 | .cls=> .bytes [62,62]
 | .arr=> .bytes [91]
 | .arrEnd=> .bytes [93]
theorem Af (W:WW) {c N:Addr} {D r Us:LU} {p:Nat} {a:AV} (C:cV σ c N D p) (hw:∀c∈r,qD c=true/\c≠35/\c≠0) (h40:r.length<=40) (hr:BE Us) (hd:D.drop p=47::r++Us)
 (hq:∀T,(σ.set N (bb D (p+(47::r).length))) T=none->Q (.ref T) ((σ.set N (bb D (p+(47::r).length))).set T (.tup [.str "name",.str (bd r),a]))):aa (k+3) (.ref 596) [.ref c,.int 47,a] σ Q X:=by
 have C':=C;obtain⟨q1,q2,q3,q4,q5⟩:=C;show ae (bI hd) fun lt e1 e2=>?_;show(af W cW (fa W) rfl zd ?_).call;left;show ad q1 q2 (f:=145) zk ?_;show sB W C' lt ?_;have C2:cV (σ.set N (bb D (p+1))) c N D (p+1):=C'.move lt;show ad C2.i C2.n (f:=173) zk ?_;show dc W C2 (fun c hc=>(hw c hc).1) hr e2 ?_;show BP W zo (fun c hc=>(hw c hc).2) ?_;show⟨zl,?_⟩;intro T hT;rw[AS.UL,show p+1+r.length=p+(47::r).length by simp;lia] at hT⊢;show hq T hT
theorem tL (W:WW) {c N:Addr} {D Us x:LU} {n:Int} {p:Nat} {a:AV} (C:cV σ c N D p) (hx:(x=[60,60]/\n=60)\/(x=[62,62]/\n=62)) (hd:D.drop p=x++Us)
 (hq:∀T,(σ.set N (bb D (p+2))) T=none->Q (.ref T) ((σ.set N (bb D (p+2))).set T (.tup [.str "sign",.bytes x,a]))):aa (k+3) (.ref 596) [.ref c,.int n,a] σ Q X:=by
 have C':=C;obtain⟨q1,q2,q3,q4,q5⟩:=C;show(af W cW (fa W) rfl zd ?_).call;rcases hx with ⟨rfl,rfl⟩ | ⟨rfl,rfl⟩
 . left;show ad q1 q2 (f:=159) zk ?_;show lW W C' zd (fun _=>?_) (fun h=>?_)
   . left;show⟨zl,?_⟩;show hq
   . rw[hd] at h;cases h
 . left;show ad q1 q2 (f:=159) zk ?_;show lW W C' zd (fun h=>?_) (fun h=>?_)
   . rw[hd] at h;cases h
   left;show ad q1 q2 (f:=159) zk ?_;show lW W C' zd (fun _=>?_) (fun h=>?_)
   . left;show⟨zl,?_⟩;show hq
   . rw[hd] at h;cases h
theorem tN (W:WW) {c N:Addr} {D Us:LU} {n:UInt8} {p:Nat} {a:AV} (C:cV σ c N D p) (hx:n=91\/n=93) (hd:D.drop p=n::Us)
 (hq:∀T,(σ.set N (bb D (p+1))) T=none->Q (.ref T) ((σ.set N (bb D (p+1))).set T (.tup [.str "sign",.bytes [n],a]))):aa (k+3) (.ref 596) [.ref c,.int n.toNat,a] σ Q X:=by
 have C':=C;obtain⟨q1,q2,q3,q4,q5⟩:=C;show ae (bI hd) fun lt e1 e2=>?_;show aa.forget ?_;show(af W cW (fa W) rfl zd ?_).call;rcases hx with rfl | rfl<;>
 . left;show ad q1 q2 (f:=159) zk ?_;show lW W C' zd (fun h=>?_) (fun h=>?_)
   . rw[hd] at h;cases h
   walk_at "w";show ad q1 q2 (f:=159) zk ?_;show lW W C' zd (fun h=>?_) (fun h=>?_)
   . rw[hd] at h;cases h
   left;show fP (m7 W) ?_;left;show ad q1 q2 (f:=145) zk ?_;show sB W C' lt ?_;show⟨zl,?_⟩;intro S hS;show vK (ns:=[_]) AS.UJ (fun n hn=>by rw[dK] at hn;subst hn;decide) zd ?_;show⟨zl,?_⟩;intro T hT;show aL (AS.UM hT) fun hT1 hT2=>?_;show⟨_,AS.Sub.up (AS.Sub.set hS),hq T hT2⟩
theorem Hp {d:UInt8} {r:LU} (h:∀c∈d::r,qD c=true):qD d=true:=h d bJ
theorem EI {d:UInt8} {r:LU} (h:qD d=true):sG (d::r):=by
 unfold qD at h;simp only [nH,Bool.not_eq_true'] at h;show⟨h.1,?_⟩;rintro rfl;show absurd h.2 zd
theorem ac {D x y:LU} {p:Nat} (h:D.drop p=x++y):D.drop (p+x.length)=y:=by
 rw[<-List.drop_drop,h,Mr]
theorem Jy {d:UInt8} (h:qD d=true):d.toNat≠47/\d.toNat≠40/\d.toNat≠41/\d.toNat≠60/\d.toNat≠62/\d.toNat≠91/\d.toNat≠93/\d.toNat≠123/\d.toNat≠125:=by
 unfold qD QA at h;simp at h;lia
theorem cV.step {c N:Addr} {D x y:LU} {p:Nat} (C:cV σ c N D p) (h:D.drop p=x++y):cV (σ.set N (bb D (p+x.length))) c N D (p+x.length):=C.move (aB h C.le)
theorem qZ (W:WW) {c N:Addr} {D ws r Us:LU} {d:UInt8} {p:Nat} (C:cV σ c N D p) (hw:∀c∈ws,qm c=true) (hr:qD d=true) (hd:D.drop p=ws++(d::r++Us))
 (hq:aa (k+3) (.ref 589) [.ref c,.int (p+ws.length:Nat)] (σ.set N (bb D (p+ws.length))) Q fun _ _=>False):aa (k+4) (.ref 603) [.ref c] σ Q X:=by
 have C':=C;obtain⟨q1,q2,q3,q4,q5⟩:=C;have C2:=C'.step hd;show(af W kr (qR W) rfl zd ?_).call;show ad q1 q2 (f:=166) zk ?_;show aE W C' hw (EI hr) hd ?_;show AttrJ.of C2.i C2.n rfl zk rfl ?_;show ad C2.i C2.n (f:=138) zk ?_;show eo W C2 ?_;rw[cF (ac hd)];show Sr (Jy hr) fun n1 n2 n3 n4 n5 n6 n7 n8 n9=>?_;show Br.neg (by rw[xg];lia) ?_;show Br.neg (by rw[xg];lia) ?_;show Br.neg (by rw[xg];lia) ?_;show Br.neg (by rw[xg];lia) ?_;show Br.neg (by rw[xg];lia) ?_;show Br.neg (by rw[xg];lia) ?_;show fP (m7 W) ?_;show Br.neg ?_ ?_
 . simp;lia
 show hq
theorem ir (W:WW) {c N:Addr} {D ws Us:LU} {d:UInt8} {p:Nat} (C:cV σ c N D p) (hw:∀c∈ws,qm c=true) (hr:d=47\/d=60\/d=62\/d=91\/d=93) (hd:D.drop p=ws++d::Us)
 (hq:aa (k+3) (.ref 596) [.ref c,.int d.toNat,.int (p+ws.length:Nat)] (σ.set N (bb D (p+ws.length))) Q fun _ _=>False):aa (k+4) (.ref 603) [.ref c] σ Q X:=by
 have C':=C;obtain⟨q1,q2,q3,q4,q5⟩:=C;have C2:=C'.step hd;show(af W kr (qR W) rfl zd ?_).call;show ad q1 q2 (f:=166) zk ?_;show aE W C' hw (by rcases hr with rfl | rfl | rfl | rfl | rfl<;>show⟨zd,zd⟩) hd ?_;show AttrJ.of C2.i C2.n rfl zk rfl ?_;show ad C2.i C2.n (f:=138) zk ?_;show eo W C2 ?_;rw[cF (ac hd)];rcases hr with rfl | rfl | rfl | rfl | rfl
 . left;show hq
 . left;show hq
 . left;show hq
 . left;show fP (m7 W) ?_;left;show hq
 . left;show fP (m7 W) ?_;left;show hq
theorem bC (W:WW) {c N:Addr} {D ws Us:LU} {p:Nat} (C:cV σ c N D p) (t:Tk) (hw:∀c∈ws,qm c=true) (ht:t.ok Us) (hd:D.drop p=ws++(t.bytes++Us))
 (hq:∀T,(σ.set N (bb D (p+ws.length+t.bytes.length))) T=none->Q (.ref T) ((σ.set N (bb D (p+ws.length+t.bytes.length))).set T (.tup [.str t.kind,t.worth,.int (p+ws.length:Nat)]))):aa (k+4) (.ref 603) [.ref c] σ Q X:=by
 have C2:=C.step hd;have hd2:=ac hd;rw[<-AS.UL (x:=bb D (p+ws.length)) (a:=N)] at hq;cases t with
 | int ds=>
  show ux ht fun h1 h2 h3 h4=>?_;show sn (IN h2) fun d r hr2=>?_;subst hr2;show qZ W C hw (qY (h1 d bJ)) hd ?_;show FL W C2 h1 h2 h3 h4 hd2 hq
 | word d r=>
  show ux ht fun h1 h2 h3 h4=>?_;show qZ W C hw (Hp h1) hd ?_;show DG W C2 h1 h2 h3 h4 hd2 hq
 | name r=>
  show GV ht fun h1 h2 h3=>?_;show ir W C hw (.inl rfl) hd ?_;show Af W C2 h1 h2 h3 hd2 hq
 | opn=>
  show ir W C hw (.inr (.inl rfl)) hd ?_;show tL W C2 (.inl ⟨rfl,rfl⟩) hd2 hq
 | cls=>
  show ir W C hw (.inr (.inr (.inl rfl))) hd ?_;show tL W C2 (.inr ⟨rfl,rfl⟩) hd2 hq
 | arr=>
  show ir W C hw (.inr (.inr (.inr (.inl rfl)))) hd ?_;show tN W C2 (.inl rfl) hd2 hq
 | arrEnd=>
  show ir W C hw (.inr (.inr (.inr (.inr rfl)))) hd ?_;show tN W C2 (.inr rfl) hd2 hq
theorem kt {vs:Array Value} (e:vs.toList.map er=[]):vs= #[]:=by
 obtain⟨l⟩:=vs;cases l with
 | nil=>rfl
 | cons _ _=>cases e
theorem vV {vs:Array Value} {xs:List AV} (e:vs.toList.map er=xs):vs.isEmpty=xs.isEmpty:=by
 obtain⟨l⟩:=vs;subst e;cases l<;>rfl
theorem pL {p r:Addr} {xs:List AV} (h:σ p=some (.list xs)) (h':σ r=some (.list [])) (hq:Q (.bool xs.isEmpty) σ):cj k (compareOp .Eq) (.ref p) (.ref r) σ Q X:=by
 show⟨fun y u hy hu=>⟨fun A Up g s hA hH R O rs=>?_⟩⟩;rw[ah hu,ah hy];show aH (aZ rs h) fun vs m hl he _=>?_;show aH (aZ rs h') fun vs' m' hl' he' _=>?_;have e:=kt he';subst e;have hu:A.units<cLine:=Df (Nat.le_add_right _ _) R.2;cases xs with
 | nil=>
  have e:=kt he;subst e;show SeqAt.eq_listAt (e:=fun _=>true) ⟨_,hl,rfl,_,rfl⟩ ⟨_,hl',rfl,_,rfl⟩ rfl hu (fun j h1 _=>absurd h1 (Nat.not_lt_zero _)) (aS σ rs.tok hq)
 | cons x xs=>
  show SeqAt.eq_list_lengthsAt ⟨_,hl,rfl,_,rfl⟩ ⟨_,hl',rfl,_,rfl⟩ ?_ hu (aS σ rs.tok hq);rw[aj he];rfl
theorem l8 {p r:Addr} {xs:List AV} (h:σ p=some (.list xs)) (h':σ r=some (.list [])) (hq:Q (.bool (!xs.isEmpty)) σ):cj k (compareOp .NotEq) (.ref p) (.ref r) σ Q X:=by
 show⟨fun y u hy hu=>⟨fun A Up g s hA hH R O rs=>?_⟩⟩;rw[ah hu,ah hy];show aH (aZ rs h) fun vs m hl he _=>?_;show aH (aZ rs h') fun vs' m' hl' he' _=>?_;have e:=kt he';subst e;have hu:A.units<cLine:=Df (Nat.le_add_right _ _) R.2;cases xs with
 | nil=>
  have e:=kt he;subst e;show SeqAt.RcNeAt.lists (e:=fun _=>true) ⟨_,hl,rfl,_,rfl⟩ ⟨_,hl',rfl,_,rfl⟩ rfl hu (fun j h1 _=>absurd h1 (Nat.not_lt_zero _)) Ω.p Ω.w _ _ (aS σ rs.tok hq)
 | cons x xs=>
  show SeqAt.RcNeAt.lists_lengths ⟨_,hl,rfl,_,rfl⟩ ⟨_,hl',rfl,_,rfl⟩ ?_ hu Ω.p Ω.w _ _ (aS σ rs.tok hq);rw[aj he];rfl
theorem BQ {p:Addr} {xs:List AV} {Q:Bool->AS->Prop} (h:σ p=some (.list xs)) (hz:xs.length<=1000000) (hq:Q (!xs.isEmpty) σ):I1 k truthy (.ref p) σ Q X:=by
 show⟨fun y hy=>⟨fun A Up g s hA hH R O rs=>?_⟩⟩;rw[ah hy];show aH (aZ rs h) fun vs m hl he _=>?_;show wpAny_truthy_list ⟨_,hl,rfl,_,rfl⟩ ?_ (aS σ rs.tok ?_)
 . rw[aj he];lia
 . rw[vV he];show hq
noncomputable def Ag (b:LU):Value->Bool
 | .bytes c _=>decide (c.toList=b)
 | _=>false
theorem dy {p:Addr} {bs:List LU} {b:LU} (h:tu Ω σ p (.tup (bs.map .bytes))) (hq:Q (.bool (bs.any (· ==b))) σ):cj k (compareOp .In) (.bytes b) (.ref p) σ Q X:=by
 show⟨fun y u hy hu=>⟨fun A Up g s hA hH R O rs=>?_⟩⟩;rw[ah hu];show aw (cN hy) fun t hr1=>?_;rw[hr1];show bQ (cu rs O h) fun vs m hl he=>?_;show SeqAt.in_tupleAt (Ag b) ⟨_,hl,rfl,_,rfl⟩ (fun y hy=>?_) (aS σ rs.tok ?_)
 . have hm:er y∈bs.map AV.bytes:=by
    rw[<-he];show bp.mpr ⟨y,Array.mem_toList_iff.mpr hy,rfl⟩
   show ae (bp.mp hm) fun c _ hc=>?_;show aw (cN hc.symm) fun t' hr1=>?_;rw[hr1];show fun _ _ E Q hq=>eqBool_bytes hq
 . have e:vs.any (Ag b)=bs.any (· ==b):=by
    rw[<-Array.any_toList,Bool.eq_iff_iff];have e2:∀(l:List Value) (bs:List LU),l.map er=bs.map AV.bytes->(l.any (Ag b)=true↔bs.any (· ==b)=true):=fun l=>by
     induction l with
     | nil=>intro bs h;cases bs with
      | nil=>show Iff.rfl
      | cons _ _=>cases h
     | cons v l ih=>intro bs h;cases bs with
      | nil=>cases h
      | cons c bs=>
       show aL (List.cons.inj h) fun h1 h2=>?_;show aw (cN h1) fun t' hr1=>?_;rw[hr1];simp only [List.any_cons,Mq,ih bs h2];change decide (c=b)=true\/_↔_;simp
    show e2 _ _ he
   rw[e];show hq
theorem Jz (t1 t2 t3:Tok):(intItems #[(1,t1),(4,t2),(2,t3)])[argBest (fun i j=>decide (numAt #[(1,t1),(4,t2),(2,t3)] i>numAt #[(1,t1),(4,t2),(2,t3)] j)) 2]?=some (.int 4 t2):=by
 simp [intItems,argBest,numAt]
theorem FM {p:Addr} (h:σ p=some (.list [.int 1,.int 4,.int 2])) (hq:Q (.int 4) σ):aa k (.fn "max") [.ref p] σ Q X:=by
 show⟨fun A Up g s fv vv hA hH R O rs hf hv=>?_⟩;rw[dL hf];show ae (xn hv) fun a hr1 ha=>?_;subst hr1;rw[ah ha];show aH (aZ rs h) fun vs n hl he _=>?_;obtain⟨v1,v2,v3,e⟩:∃v1 v2 v3,vs.toList=[v1,v2,v3]:=Fw (by have:=congrArg List.length he;simpa using this);rw[e] at he;simp at he;show GV he fun e1 e2 e3=>?_;show aw (aI e1) fun t1 hr1=>?_;subst hr1;show aw (aI e2) fun t2 hr1=>?_;subst hr1;show aw (aI e3) fun t3 hr1=>?_;subst hr1;have ev:vs=intItems #[(1,t1),(4,t2),(2,t3)]:=by
  obtain⟨l⟩:=vs;simp at e;rw[e];simp [intItems]
 rw[ev] at hl;show max_intList (xs:= #[(1,t1),(4,t2),(2,t3)]) hH ⟨_,hl,rfl,_,rfl⟩ (Nat.zero_lt_succ _) fun v h' tk hv hk=>(aS σ (rs.ext hk) ?_);rw[show(#[((1:Int),t1),(4,t2),(2,t3)]:Array (Int×Tok)).size-1=2 from rfl,Jz] at hv;cases hv;show hq
theorem FN (W:WW) {T:Addr} {kd:Str} {wo at_:AV} {x:LU} (h:σ T=some (.tup [.str kd,wo,at_])) (h1:kd≠"sign"->Q (.bool false) σ) (h2:kd="sign"->∃y,wo= .bytes y/\Q (.bool (y==x)) σ):aa (k+1) (.ref 610) [.ref T,.bytes x] σ Q X:=by
 show(af W yY (FH W) rfl zd ?_).call;show f0 (i:=0) (.inl h) rfl zd ?_;show Br.mk (fun e=>?_) (fun e=>?_)
 rotate_left
 . have e2:(kd==Str.ofString "sign")=false:=e;rw[e2];show h1 (by simpa using e)
 . show ae (h2 (by simpa using e)) fun y hr1 q=>?_;subst hr1;show f0 (i:=1) (.inl h) rfl zd ?_;show q
theorem vW (W:WW) {n:Int} (h:0<=n) (hq:Q (.bool true) σ):aa (k+1) (.ref 645) [.int n] σ Q X:=by
 show(af W pI (vP W) rfl zd ?_).call;show cH W iT (b:=true) zk ?_;left;show cH W iT (b:=false) zk ?_;left;rw[yz h];show hq
theorem uJ (W:WW) (hq:Q (.bool false) σ):aa (k+1) (.ref 645) [.none] σ Q X:=by
 show(af W pI (vP W) rfl zd ?_).call;show cH W BN (b:=false) zk ?_;left;show hq
noncomputable abbrev AS.mk (σ:AS) (a N C:Addr) (m:List (Attr×AV)):AS:=(σ.set N (.ns m)).set a (.inst C N)
structure At (σ:AS) (a N C:Addr) (m:List (Attr×AV)):Prop where
 i:σ a=some (.inst C N)
 n:σ N=some (.ns m)
theorem At.new {a N C:Addr} {m:List (Attr×AV)} (h:a≠N):At (σ.mk a N C m) a N C m:=⟨AS.UJ,(AS.UK (ez h)).trans AS.UJ⟩
theorem AS.Sub.mk {a N C:Addr} {m:List (Attr×AV)} (h1:σ a=none) (h2:σ N=none) (h:a≠N):σ.Sub (σ.mk a N C m):=(AS.Sub.set h2).trans (AS.Sub.set ((AS.UK h).trans h1))
theorem MT (W:WW) {s:Str} (hq:∀a N,σ a=none->σ N=none->a≠N->Q (.ref a) (σ.mk a N 351 [(.text,.str s)])):aa (k+2) (.ref 351) [.str s] σ Q X:=by
 show iM W (f:=348) zk zk zk fun a N h1 h2 h3=>?_;show af W tI (BK W) rfl zd ?_;right;rw[AS.mk_eq h3];show⟨rfl,hq a N h1 h2 h3⟩
theorem EJ (W:WW) {b:LU} (hq:∀a N I,σ a=none->σ N=none->σ I=none->a≠N->I≠a->I≠N->Q (.ref a) ((σ.mk a N 634 [(.mark,.bytes b),(.items,.ref I)]).set I (.list []))):aa (k+2) (.ref 634) [.bytes b] σ Q X:=by
 show iM W (f:=624) zk zk zk fun a N h1 h2 h3=>?_;show af W qT (Ae W) rfl zd ?_;right;show⟨Nat.zero_le _,fun I hI=>?_⟩;show aL (AS.UM hI) fun i1 hI=>?_;show aL (AS.UM hI) fun i2 hI=>?_;show aL (AS.UM hI) fun i3 hI=>?_;right;show⟨rfl,?_⟩;have:=hq a N I h1 h2 hI h3 i2 i1;simp only [AS.UN i1,AS.mk_eq h3,AS.UL];show this
theorem dg (W:WW) {f N I:Addr} {b:LU} {xs:List AV} (h:At σ f N 634 [(.mark,.bytes b),(.items,.ref I)]) (hI:σ I=some (.list xs)) (hz:xs.length<=1000000) (hq:Q (.bool (b==[60,60]&&xs.length%2==0)) σ):aa (k+1) (.ref 631) [.ref f] σ Q X:=by
 obtain⟨h1,h2⟩:=h;show(af W iS (qU W) rfl zd ?_).call;right;show Br.mk (fun e=>?_) (fun e=>?_)
 rotate_left
 . have e':(b==[60,60])=false:=by simpa using e
   rw[e'] at hq⊢;show hq
 . have e':(b==[60,60])=true:=by simpa using e
   rw[e'] at hq;right;show bE hI hz ?_;show⟨zd,?_⟩;walk_at "w";have e2:(Int.fmod (xs.length:Int) 2==0)=(xs.length%2==0):=by
    rw[Int.fmod_eq_emod_of_nonneg _ zd,Bool.eq_iff_iff,Bh,Bh];lia
   rw[e2];show hq
theorem pM (W:WW) {ds:LU} (hw:∀c∈ds,gw c=true) (h40:ds.length<=40) (h0:ds=[]->Q .none σ) (hq:ds≠[]->Q (.int (ay 0 ds)) σ):aa (k+1) (.ref 334) [.bytes ds] σ Q X:=by
 by_cases e:ds=[]
 . subst e;show l7 W (h0 rfl)
 . show l6 W hw e h40 (hq e)
def oB (x:LU):Prop:=∃ws run ws2 run2 Us,x=ws++(run++(ws2++(run2++Us)))/\(∀c∈ws,qm c=true)/\sG (run++(ws2++(run2++Us)))/\(∀c∈run,gw c=true)/\run.length<=40/\BE (ws2++(run2++Us))/\
 (∀c∈ws2,qm c=true)/\sG (run2++Us)/\(∀c∈run2,qD c=true)/\BE Us/\run2≠[82]
theorem sN (W:WW) {c N:Addr} {D:LU} {p:Nat} {n:AV} (C:cV σ c N D p) (hn:oB (D.drop p)) (hq:Q n σ):aa (k+3) (.ref 652) [.ref c,n] σ Q X:=by
 obtain⟨ws,run,ws2,run2,Us,e,h1,h2,h3,h4,h5,h6,h7,h8,h9,h10⟩:=hn;have C':=C;obtain⟨q1,q2,q3,q4,q5⟩:=C;show aa.forget ?_;show(af W jP (sL W) rfl zd ?_).call;right;show gm W (.inr (.inl rfl)) q5 fun a M ha hM hne=>?_;have K:=cV.new (σ:=σ) hne q4 q5;have S:σ.Sub (σ.mk a M 211 [(.data,.bytes D),(.at,.int p),(.end_,.int D.length)]):=AS.Sub.mk ha hM hne;show ad K.i K.n (f:=166) zk ?_;show aE W K h1 h2 e ?_;have K2:=K.step e;have d2:=ac e;show ad K2.i K2.n (f:=173) zk ?_;show dc W K2 (fun c hc=>qY (h3 c hc)) h5 d2 ?_;have K3:=K2.step d2;have d3:=ac d2;have d4:=ac d3;show pM W h3 h4 (fun e=>?_) (fun e=>?_)
 . show ad K3.i K3.n (f:=166) zk ?_;show aE W K3 h6 h7 d3 ?_;show uJ W ?_;left;show⟨σ,?_,hq⟩;simp only [AS.mk_eq hne];show AS.Sub.mk ha hM hne
 . show ad K3.i K3.n (f:=166) zk ?_;show aE W K3 h6 h7 d3 ?_;have K4:=K3.step d3;show vW W zo ?_;left;show ad K4.i K4.n (f:=173) zk ?_;show dc W K4 h8 h9 d4 ?_;show Br.pos (by simpa using h10) ?_;show⟨σ,?_,hq⟩;simp only [AS.mk_eq hne];show AS.Sub.mk ha hM hne
theorem tO (W:WW) {c N T:Addr} {D:LU} {p:Nat} {n:Nat} {at_:AV} (C:cV σ c N D p) (hT:σ T=some (.tup [.str "int",.int n,at_])) (hn:oB (D.drop p)) (hq:Q (.int n) σ):aa (k+4) (.ref 666) [.ref c,.ref T,.bool true] σ Q X:=by
 show(af W jo (oy W) rfl zd ?_).call;show aD hT ⟨rfl,?_⟩;left;show sN W C hn hq
theorem q0 (W:WW) {T:Addr} {c:AV} {s:Str} {at_ b:AV} (hT:σ T=some (.tup [.str "name",.str s,at_])) (hq:∀a N,σ a=none->σ N=none->a≠N->Q (.ref a) (σ.mk a N 351 [(.text,.str s)])):aa (k+3) (.ref 666) [c,.ref T,b] σ Q X:=by
 show(af W jo (oy W) rfl zd ?_).call;show aD hT ⟨rfl,?_⟩;left;show MT W hq
theorem BR {a b:Nat} (h1:a<=10000000) (h2:b<=10000000):Builtin.Range.small (a:Int) b 1=true:=PySem.small_one zo zo zo zo
theorem tP {a b:Nat}:Builtin.Range.rangeSize (a:Int) b 1=((b-a:Nat):Int):=by
 delta Builtin.Range.rangeSize
 rw[eM zd];by_cases h:(a:Int)<b
 . rw[eM h,Int.ediv_one];lia
 . rw[dr h];lia
theorem EK {n:Nat}:Builtin.Range.rangeSize 0 ((2*n:Nat):Int) 2=(n:Int):=by
 delta Builtin.Range.rangeSize
 rw[eM zd];by_cases h:(0:Int)<((2*n:Nat):Int)
 . rw[eM h];lia
 . rw[dr h];lia
theorem QC {n:Nat} (h:n<=1000000):Builtin.Range.small 0 ((2*n:Nat):Int) 2=true:=by
 delta Builtin.Range.small
 rw[EK,eM zd];simp only [Builtin.Range.rangeFitsLong,nH,Mq,decide_eq_true_eq,Bh];lia
theorem L6 {n:Nat}:vz 0 ((2*n:Nat):Int) 2=(List.range n).map fun i=> .int ((2*i:Nat):Int):=by
 delta vz xq
 rw[EK,Int.toNat_natCast];apply GG;intro i _
 congr 1
 lia
theorem q9 {a b:Nat}:vz a b 1=(List.range' a (b-a)).map fun i=> .int (i:Int):=by
 delta vz xq
 rw[tP,Int.toNat_natCast,List.range'_eq_map_range,bq];apply GG;intro i _;simp
structure NV where
 a:Addr
 s:Str
 v:AV
noncomputable def fB:List NV->List AV
 | []=>[]
 | x::r=> .ref x.a::x.v::fB r
noncomputable abbrev cx (l:List NV):List (AK×AV):=l.map fun x=>(.s x.s,x.v)
theorem bF:∀l:List NV,(fB l).length=2*l.length
 | []=>rfl
 | x::r=>by rw[fB,fF,fF,bF r,fF];lia
theorem ma:∀l r:List NV,fB (l++r)=fB l++fB r
 | [],r=>rfl
 | x::l,r=>by rw[List.cons_append,fB,fB,ma l r];rfl
theorem Hq {ps rs:List NV} {x:NV}:(fB (ps++x::rs))[2*ps.length]?=some (.ref x.a)/\(fB (ps++x::rs))[2*ps.length+1]?=some x.v:=by
 rw[ma,fB,<-bF ps];constructor
 . rw[List.getElem?_append_right (Nat.le_refl _),Nat.sub_self];rfl
 . rw[List.getElem?_append_right (Nat.le_succ _),show(fB ps).length+1-(fB ps).length=1 by lia];rfl
theorem fe {xs:List (AK×AV)} {x:AK} {v:AV} (h:∀p∈xs,p.1≠x):iH xs x v=xs++[(x,v)]:=by
 delta iH
 rw[dr];rw[Bn];rintro ⟨p,hp,e⟩;show h p hp (by simpa using e)
theorem aA {σ:AS} {a b:Addr} {o o' x:AO} (h:σ a=some o) (hb:σ b=some o') (ne:o≠o'):(σ.set b x) a=some o:=(AS.UK (fun e=>ne (by rw[e,hb] at h;show(ql h).symm))).trans h
def bv (σ:AS) (a:Addr) (s:Str):Prop:=∃N,At σ a N 351 [(.text,.str s)]
theorem bv.set {σ:AS} {a b:Addr} {s:Str} {o' x:AO} (h:bv σ a s) (hb:σ b=some o') (h1:∀N,AO.inst 351 N≠o') (h2:AO.ns [(.text,.str s)]≠o'):bv (σ.set b x) a s:=by
 obtain⟨N,i,n⟩:=h;show⟨N,aA i hb (h1 N),aA n hb h2⟩
theorem bv.sub {σ UH:AS} {a:Addr} {s:Str} (h:bv σ a s) (S:σ.Sub UH):bv UH a s:=by
 obtain⟨N,i,n⟩:=h;show⟨N,S _ _ i,S _ _ n⟩
theorem Ah (W:WW) {I F R:Addr} {all:List NV} {Q:ax} (nd:(all.map (·.s)).Nodup):∀(rs ps:List NV) (ep:Nat) (x:Option AV) (σ:AS),ps++rs=all->all.length<=1000->σ I=some (.list (fB all))->σ F=some (.dict ep (cx ps))->
 (∀y∈all,bv σ y.a y.s)->σ R=some (.rng 0 ((2*all.length:Nat):Int) 2)->(∀x ep',Q .next [some (.ref I),some (.ref F),x] (σ.set F (.dict ep' (cx all))))->
 bU (vQ) vR (fun σ=>σ R=some (.rng 0 ((2*all.length:Nat):Int) 2)) k Q ((List.range' ps.length rs.length).map fun i=> .int ((2*i:Nat):Int)) [some (.ref I),some (.ref F),x] σ:=by
 intro rs;induction rs with
 | nil=>
  intro ps ep x σ e hz hI hF hn hR h;rw[Bo] at e;subst e;have:=h x ep;rw[AS.set_id hF] at this;show this
 | cons y rs ih=>
  intro ps ep x σ e hz hI hF hn hR h;have hl:ps.length+(rs.length+1)=all.length:=by rw[<-e,j7,fF]
  show aL (Hq (ps:=ps) (rs:=rs) (x:=y)) fun g1 g2=>?_;rw[e] at g1 g2;obtain⟨N,i1,n1⟩:=hn y (by rw[<-e];simp);rw[fF,List.range'_succ,dI];show ak (i:=2*ps.length+1) hI g2 zo ?_;show ak (i:=2*ps.length) hI g1 zo ?_;show AttrJ.of i1 n1 rfl zk rfl ?_;show bM (x:= .s y.s) hF zm fun ep'=>?_;have fresh:∀p∈cx ps,p.1≠AK.s y.s:=by
   intro p hp;show ae (bp.mp hp) fun z hz hr2=>?_;subst hr2;intro e';have e2:z.s=y.s:=AK.s.inj e';rw[<-e,pj,dI,Ey] at nd;show nd.2.2 z.s (bp.mpr ⟨z,hz,rfl⟩) y.s bJ e2
  rw[fe fresh];show⟨aA hR hF nofun,?_⟩;have e1:cx ps++[(AK.s y.s,y.v)]=cx (ps++[y]):=zs;rw[e1,show ps.length+1=(ps++[y]).length by simp];show ih (ps++[y]) ep' _ _ (by simpa using e) hz (aA hI hF nofun) AS.UJ (fun z hz=>(hn z hz).set hF (fun _=>nofun) nofun) (aA hR hF nofun) fun x ep''=>?_;rw[AS.UL];show h x ep''
theorem mc {xs:List (AK×AV)} (nd:(xs.map (·.1)).Nodup) {x:AK} {v:AV} (h:(x,v)∈xs):bl xs x=some v:=by
 unfold bl;induction xs with
 | nil=>cases h
 | cons p r ih=>
  rw[dI,GT] at nd;rw[List.find?_cons];by_cases e:p.1=x
  . rw[yz e];rcases mV h with rfl | h
    . rfl
    . show absurd (bp.mpr ⟨_,h,e.symm⟩) nd.1
  . rw[uw e];rcases mV h with rfl | h
    . show absurd rfl e
    . show ih nd.2 h
theorem FO (l:List NV):(cx l).map (·.1)=l.map fun x=>AK.s x.s:=by rw[bq];rfl
theorem pN {l:List NV} (nd:(l.map (·.s)).Nodup):((cx l).map (·.1)).Nodup:=by
 rw[FO];have e:(l.map fun x=>AK.s x.s)=(l.map (·.s)).map AK.s:=by rw[bq];rfl
 rw[e,List.Nodup,IZ];show List.Pairwise.imp (fun h e=>h (AK.s.inj e)) nd
theorem Ai (W:WW) {F:Addr} {all:List NV} {ep:Nat} {Q:List (AK×AV)->AS->Prop} (nd:(all.map (·.s)).Nodup) (hv:∀y∈all,bB y.v=false) (hF:σ F=some (.dict ep (cx all))):∀(rs ps:List NV) (x:Option AV),ps++rs=all->
 Q (cx all) σ->mZ 0 (some (qV)) qW qX (fun σ=>σ F=some (.dict ep (cx all))) k Q (rs.map fun y=> .str y.s) (cx ps) [x,some (.ref F)] σ:=by
 intro rs;induction rs with
 | nil=>intro ps x e h;rw[Bo] at e;subst e;show h
 | cons y rs ih=>
  intro ps x e h;have hm:y∈all:=by rw[<-e];simp
  have hd:bl (cx all) (.s y.s)=some y.v:=mc (pN nd) (bp.mpr ⟨y,hm,rfl⟩);rw[dI];show a8 (x:= .s y.s) hF hd ?_;show Br.pos (by rw[hv y hm];rfl) ?_;show a8 (x:= .s y.s) hF hd ?_;show⟨.s y.s,rfl,hF,?_⟩;have fresh:∀p∈cx ps,p.1≠AK.s y.s:=by
   intro p hp;show ae (bp.mp hp) fun z hz hr2=>?_;subst hr2;intro e';have e2:z.s=y.s:=AK.s.inj e';rw[<-e,pj,dI,Ey] at nd;show nd.2.2 z.s (bp.mpr ⟨z,hz,rfl⟩) y.s bJ e2
  rw[fe fresh];have e1:cx ps++[(AK.s y.s,y.v)]=cx (ps++[y]):=zs;rw[e1];show ih (ps++[y]) _ (by simpa using e) h
theorem FP (W:WW) {I:Addr} {all:List NV} (nd:(all.map (·.s)).Nodup) (hz:all.length<=1000) (hI:σ I=some (.list (fB all))) (hn:∀y∈all,bv σ y.a y.s) (hv:∀y∈all,bB y.v=false)
 (hq:∀p ep,σ p=none->Q (.ref p) (σ.set p (.dict ep (cx all)))):aa (k+1) (.ref 671) [.ref I] σ Q X:=by
 show aa.forget ?_;show(sv W sM (FJ W) rfl zd ?_).call;intro F ep0 hF;have S1:σ.Sub (σ.set F (.dict ep0 [])):=AS.Sub.set hF;show bE (S1 _ _ hI) (by rw[bF];lia) ?_;rw[bF];show yP (a:=0) (b:=((2*all.length:Nat):Int)) (c:=2) zd (PyProof.noPylong_small zd) fun R hR=>?_;have S2:=S1.trans (AS.Sub.set (o:= .rng 0 ((2*all.length:Nat):Int) 2) hR);show eQ.of (dM (QC zo) (by rw[EK];lia)) AS.UJ ?_;rw[L6,List.range_eq_range'];have hF2:((σ.set F (.dict ep0 [])).set R (.rng 0 ((2*all.length:Nat):Int) 2)) F=some (.dict ep0 []):=AS.Sub.set hR _ _ AS.UJ;show Ah W nd all [] ep0 none _ rfl hz (S2 _ _ hI) hF2 (fun y hy=>(hn y hy).sub S2) AS.UJ fun x ep'=>?_;show vG.of cQ AS.UJ zu ?_;have S3:σ.Sub (((σ.set F (.dict ep0 [])).set R (.rng 0 ((2*all.length:Nat):Int) 2)).set F (.dict ep' (cx all))):=fun a o e=>(AS.UK (ez (aR hF e))).trans (S2 _ _ e);have ek:((cx all).map fun p=>p.1.av)=all.map fun y=>AV.str y.s:=by rw[bq];rfl
 rw[ek];show Ai W nd hv AS.UJ all [] none rfl ?_;intro p ep hp;have hp2:σ p=none:=by
  cases e:σ p with
  | none=>rfl
  | some o=>rw[S3 _ _ e] at hp;cases hp
 show⟨_,S3.up,hq p ep hp2⟩
inductive PV where
 | int (ds:LU) | name (r:LU) | arr (dss:List LU)
def gL (σ:AS) (v:AV):PV->Prop
 | .int ds=>v= .int (ay 0 ds)
 | .name r=>∃a,v= .ref a/\bv σ a (bd r)
 | .arr dss=>∃a,v= .ref a/\σ a=some (.list (dss.map fun ds=> .int (ay 0 ds)))
def md:AO->Prop
 | .inst C _=>C≠351
 | .ns m=>∀s,m≠[(.text,.str s)]
 | .list xs=>∃a r,xs= .ref a::r
 | _=>True
theorem md.inst {o:AO} (h:md o) (N:Addr):AO.inst 351 N≠o:=by rintro rfl;show h rfl
theorem md.ns {o:AO} (h:md o) (s:Str):AO.ns [(.text,.str s)]≠o:=by rintro rfl;show h s rfl
theorem md.list {o:AO} (h:md o) (l:List LU):AO.list (l.map fun ds=> .int (ay 0 ds))≠o:=by
 rintro rfl;show sn h fun a r e=>?_;cases l<;>cases e
theorem gL.set {σ:AS} {v:AV} {x:PV} {b:Addr} {o' y:AO} (h:gL σ v x) (hb:σ b=some o') (ho:md o'):gL (σ.set b y) v x:=by
 cases x with
 | int ds=>show h
 | name r=>obtain⟨a,e,h⟩:=h;show⟨a,e,h.set hb ho.inst (ho.ns _)⟩
 | arr l=>obtain⟨a,e,h⟩:=h;show⟨a,e,aA h hb (ho.list l)⟩
theorem gL.sub {σ UH:AS} {v:AV} {x:PV} (h:gL σ v x) (S:σ.Sub UH):gL UH v x:=by
 cases x with
 | int ds=>show h
 | name r=>obtain⟨a,e,h⟩:=h;show⟨a,e,h.sub S⟩
 | arr l=>obtain⟨a,e,h⟩:=h;show⟨a,e,S _ _ h⟩
theorem gL.notNone {σ:AS} {v:AV} {x:PV} (h:gL σ v x):bB v=false:=by
 cases x with
 | int ds=>rw[show v=_ from h];rfl
 | name r=>obtain⟨a,rfl,h⟩:=h;rfl
 | arr l=>obtain⟨a,rfl,h⟩:=h;rfl
theorem FQ {D:LU} {p:Nat}:md (bb D p):=fun s e=>by cases e
def fR (σ:AS) (done:List (NV×PV)):Prop:=∀y∈done,bv σ y.1.a y.1.s/\gL σ y.1.v y.2
theorem fR.set {σ:AS} {done:List (NV×PV)} {b:Addr} {o' y:AO} (h:fR σ done) (hb:σ b=some o') (ho:md o'):fR (σ.set b y) done:=fun z hz=>⟨(h z hz).1.set hb ho.inst (ho.ns _),(h z hz).2.set hb ho⟩
theorem fR.sub {σ UH:AS} {done:List (NV×PV)} (h:fR σ done) (S:σ.Sub UH):fR UH done:=fun z hz=>⟨(h z hz).1.sub S,(h z hz).2.sub S⟩
def AS.But (N:Addr) (σ UH:AS):Prop:=∀a o,a≠N->σ a=some o->UH a=some o
theorem AS.But.sub {N:Addr} {σ UH UI:AS} (h:σ.But N UH) (S:UH.Sub UI):σ.But N UI:=fun a o e q=>S _ _ (h a o e q)
theorem AS.But.set {N b:Addr} {σ UH:AS} {x:AO} (h:σ.But N UH) (hb:b=N\/σ b=none):σ.But N (UH.set b x):=fun a o e q=>by
 have ne:a≠b:=by
  rintro rfl;rcases hb with rfl | hb
  . show e rfl
  . rw[hb] at q;cases q
 rw[AS.UK ne];show h a o e q
theorem AS.But.trans {N:Addr} {σ UH UI:AS} (h:σ.But N UH) (h':UH.But N UI):σ.But N UI:=fun a o e q=>h' a o e (h a o e q)
theorem AS.But.of_set {N:Addr} {σ:AS} {x:AO}:σ.But N (σ.set N x):=fun a o e q=>(AS.UK e).trans q
theorem cV.sub {σ UH:AS} {c N:Addr} {D:LU} {p:Nat} (C:cV σ c N D p) (S:σ.Sub UH):cV UH c N D p:=⟨S _ _ C.i,S _ _ C.n,C.ne,C.le,C.small⟩
theorem cV.keep {σ:AS} {c N b:Addr} {D:LU} {p:Nat} {o x:AO} (C:cV σ c N D p) (hb:σ b=some o) (h1:AO.inst 211 N≠o) (h2:bb D p≠o):cV (σ.set b x) c N D p:=⟨aA C.i hb h1,aA C.n hb h2,C.ne,C.le,C.small⟩
theorem At.sub {σ UH:AS} {a N C:Addr} {m:List (Attr×AV)} (h:At σ a N C m) (S:σ.Sub UH):At UH a N C m:=⟨S _ _ h.i,S _ _ h.n⟩
theorem At.keep {σ:AS} {a N C b:Addr} {m:List (Attr×AV)} {o x:AO} (h:At σ a N C m) (hb:σ b=some o) (h1:AO.inst C N≠o) (h2:AO.ns m≠o):At (σ.set b x) a N C m:=⟨aA h.i hb h1,aA h.n hb h2⟩
noncomputable abbrev MU (I:Addr):List (Attr×AV):=[(.mark,.bytes [60,60]),(.items,.ref I)]
noncomputable abbrev DH (I:Addr):List (Attr×AV):=[(.mark,.bytes [91]),(.items,.ref I)]
structure xi (σ0 σ:AS) (c N:Addr) (D:LU) (p:Nat) (FR f Nf I:Addr) (items:List AV) (done:List (NV×PV)):Prop where
 C:cV σ c N D p
 fr:σ FR=some (.list [.ref f])
 f:At σ f Nf 634 (MU I)
 it:σ I=some (.list items)
 ne:FR≠I
 hd:(items=[]/\done=[])\/∃a r,items= .ref a::r
 pr:fR σ done
 ext:σ0.But N σ
 n0:σ0 FR=none
 i0:σ0 I=none
 len:items.length<=100
variable {σ0:AS} {c N FR f Nf I:Addr} {D:LU} {p:Nat} {items:List AV} {done:List (NV×PV)}
theorem xi.sub {σ UH:AS} (h:xi σ0 σ c N D p FR f Nf I items done) (S:σ.Sub UH):xi σ0 UH c N D p FR f Nf I items done:=
 ⟨h.C.sub S,S _ _ h.fr,h.f.sub S,S _ _ h.it,h.ne,h.hd,h.pr.sub S,h.ext.sub S,h.n0,h.i0,h.len⟩
theorem xi.move {σ:AS} {q:Nat} (h:xi σ0 σ c N D p FR f Nf I items done) (hq:q<=D.length):xi σ0 (σ.set N (bb D q)) c N D q FR f Nf I items done:=
 ⟨h.C.move hq,aA h.fr h.C.n nofun,h.f.keep h.C.n nofun (fun e=>by cases e),aA h.it h.C.n nofun,h.ne,h.hd,h.pr.set h.C.n FQ,h.ext.set (.inl rfl),h.n0,h.i0,h.len⟩
theorem xi.put {σ:AS} (h:xi σ0 σ c N D p FR f Nf I items done) {v:AV} {done':List (NV×PV)} (hd:∃a r,items++[v]= .ref a::r) (hl:items.length+1<=100) (hp:done'=done\/∃y,done'=done++[y]/\(∃a r,items= .ref a::r)/\bv σ y.1.a y.1.s/\gL σ y.1.v y.2):
 xi σ0 (σ.set I (.list (items++[v]))) c N D p FR f Nf I (items++[v]) done':=by
 have pk:fR (σ.set I (.list (items++[v]))) done:=by
  rcases h.hd with ⟨-,rfl⟩ | ho
  . show fun _ hz=>nomatch hz
  . show h.pr.set h.it ho
 show⟨h.C.keep h.it nofun nofun,(AS.UK h.ne).trans h.fr,h.f.keep h.it nofun nofun,AS.UJ,h.ne,.inr hd,?_,h.ext.set (.inr h.i0),h.n0,h.i0,by rw[j7];lia⟩;rcases hp with rfl | ⟨y,rfl,ho,h1,h2⟩
 . show pk
 . intro z hz;rcases eL.mp hz with hz | hz
   . show pk z hz
   . rw[dK] at hz;rw[hz];show⟨h1.set h.it (md.inst (o:= .list items) ho) (md.ns (o:= .list items) ho _),h2.set h.it ho⟩
end
set_option tactic.hygienic true
noncomputable section
open MeetsSeq
set_option maxRecDepth 100000
theorem Hr:GL "BLANK" (.int 32 1192):=mL
theorem BS:GL "LETTER_F" (.int 102 1194):=mL
theorem BU:GL "LETTER_N" (.int 110 1196):=mL
theorem xG:GL "MOST_DEPTH" (.int 40 1011):=mL
theorem pO:GL "MOST_GENERATION" (.int 65535 1190):=mL
theorem vX:GB "str" (.type "str"):=mB
theorem nQ:GL "without_line_end" (.ref 707):=mL
theorem BV:GC "Entry" (.ref 761):=mC
theorem Hs:GC "Frame" (.ref 634):=mC
theorem FS:GC "Stream" (.ref 394):=mC
theorem vY:GC "close_frame" (.ref 678):=mC
theorem DI:GC "is_sign" (.ref 610):=mC
theorem Aj:GC "length_of" (.ref 700):=mC
theorem f6:GC "next_token" (.ref 603):=mC
theorem vZ:GC "object_from" (.ref 686):=mC
theorem v7:GC "plain_value" (.ref 666):=mC
theorem me:GC "read_object" (.ref 693):=mC
theorem v8:GC "read_stream" (.ref 715):=mC
theorem Ak:GC "skip_word" (.ref 722):=mC
theorem xH:GC "take_blank" (.ref 779):=mC
theorem xI:GC "take_count" (.ref 800):=mC
theorem xJ:GC "take_entry" (.ref 793):=mC
theorem ra:GC "take_entry_end" (.ref 786):=mC
theorem uK:GC "take_figures" (.ref 772):=mC
theorem v9:GC "take_number" (.ref 729):=mC
theorem pP:GC "take_subsection" (.ref 807):=mC
theorem uL:GC "take_trailer" (.ref 814):=mC
def ce:Fn:=bZ "object_from" (tF 68) ["cursor","token","lets_references","frames","kind","worth","at","is_opening","value"] [gC DI,gB bO,gE xG,gC Hs,gC vY,gC v7,gC f6]
def aq:CT ce:=(.val (.bool true 0 (z 11184014)))
def au:CB ce:= .K (.unpack (.v 1 11208931) [(4,(z 11206212)),(5,(z 11207119)),(6,(z 11208173))] 0 (z 11206223) (z 11206231)) (.K (.a 7 (.allv .And [(.q (.v 4 11230675) .Eq (.s "sign" 11231885) 11230685),(.q (.v 5 11233545) .In (.t 11234912 [(.bytes [91] 0 (z 11235054)),(.bytes [60,60] 0 (z 11235961))]) 11233562)] (z 11230712)) 11228718 11228762) (.K (.ite (.all .And [(.q (.v 3 11251667) .NotEq (.l 11253173 []) 11251673),(.val (.m "wants_key" (.u (.v 3 11254234) (.neg 1 0 (z 11255287) (z 11255437)) 11254238) 11254248 11254250 [])),(.q (.v 4 11258460) .NotEq (.s "name" 11259670) 11258470),(.not (.val (.c 0 11262238 [(.v 1 11263444),(.bytes [62,62] 0 (z 11264501))] 11262252)) (z 11261652))] (z 11251753)) (.K (.dead (bA (bg 0 (bA (bg 0 (bA (bg 0 (tF 68)) 1)) 2)) 0)) .nil) .nil ⟨500,8,501,53⟩) (.K (.ite (.val (.v 7 11296671)) (.K (.ite (.q (.c 1 11319768 [(.v 3 11320375)] 11319776) .Eq (.g 2 11322040) 11319790) (.K (.dead (bA (bg 0 (bA (bg 0 (bA (bg 0 (bA (bg 0 (tF 68)) 1)) 3)) 0)) 0)) .nil) .nil ⟨503,12,504,56⟩) (.K (.expr (.m "append" (.v 3 11364318) 11364325 11364339 [(.c 3 11366431 [(.v 5 11367337)] 11366438)]) (z 11364339)) .nil)) (.K (.ite (.all .And [(.q (.v 4 11409769) .Eq (.s "sign" 11410979) 11409779),(.q (.v 5 11412639) .In (.t 11414006 [(.bytes [93] 0 (z 11414148)),(.bytes [62,62] 0 (z 11415055))]) 11412656)] (z 11409806)) (.K (.a 8 (.c 4 11433635 [(.v 3 11435442),(.v 5 11436649),(.v 6 11437703)] 11433654) 11432421 11432454) .nil) (.K (.a 8 (.c 5 11478635 [(.v 0 11480442),(.v 1 11481649),(.v 2 11482716)] 11478667) 11477421 11477467) .nil) ⟨507,12,510,67⟩) (.K (.ite (.q (.v 3 11499771) .Eq (.l 11501277 []) 11499777) (.K (.t (.v 8 11523478) 11522428) .nil) .nil ⟨511,12,512,28⟩) (.K (.expr (.m "append" (.attr (.u (.v 3 11544318) (.neg 1 0 (z 11545371) (z 11545521)) 11544322) .items (z 11544328)) 11544335 11544342 [(.v 8 11547941)]) (z 11544342)) .nil))) ⟨502,8,513,42⟩) (.K (.a 1 (.c 6 11567426 [(.v 0 11569083)] 11567434) 11566213 11566234) .nil))))
def jq:CB ce:= .K (.a 3 (.l 11161965 []) 11160610 11160615) (.K (.while_ aq au ⟨497,4,514,34⟩) .nil)
theorem xK:(jq:CB ce).b=bg 0 (tF 68):=zk
theorem xL (W:WW):eP ce Ω.w Ω.b 686 (.ref 685) (jq:CB ce).b 2 fun vv=>ce.names.zip (vv++[(.bool true)]):=
 fO (st:=tF 68) (q:="object_from") (df:=(.ref 679)) (pm:=nB) W zk zk (by rw[xK];kernel_rfl) zk rfl (fun s vv X hn=>by obtain⟨v0,v1,rfl⟩:=By hn;show im X (T:=679) (items:=[(.bool true)]) (ps:=[⟨"cursor",none,(z 11139922)⟩,⟨"token",none,(z 11141129)⟩,⟨"lets_references",none,(z 11142196)⟩]) zk rfl zk zk (fun fd hp hk=>by obtain⟨⟩:=fd;cases hp;cases hk;show⟨_,rfl,rfl⟩)) zk (jG zk)
def oE:Fn:=bZ "read_object" (tF 69) ["cursor"] [gC f6,gC vZ]
def oH:CB oE:= .K (.t (.c 1 11611672 [(.v 0 11613479),(.c 0 11614691 [(.v 0 11616348)] 11614699)] 11611700) 11610650) .nil
theorem xM:DT oE 693 692 1 oH:=dm (tF 69) nB
def tQ:Fn:=bZ "length_of" (tF 70) ["head","shelf","value"] [gC tG]
def tR:CB tQ:= .K (.a 2 (.m "get" (.v 0 11656816) 11656820 11656830 [(.s "Length" 11658179)]) 11655609 11655630) (.K (.ite (.q (.v 1 11678562) .IsNot (.o 11680524) 11678574) (.K (.a 2 (.m "fetch" (.v 1 11702421) 11702427 11702434 [(.v 2 11704233)]) 11701213 11701234) .nil) .nil ⟨519,4,520,34⟩) (.K (.t (.ifexp (.val (.c 0 11725528 [(.v 2 11726884)] 11725535)) (.v 2 11724166) (.o 11728695) (z 11724195)) 11723145) .nil))
theorem BW:DT tQ 700 699 2 tR:=dm (tF 70) nB
def dQ:Fn:=bZ "read_stream" (tF 72) ["cursor","head","shelf","begun","length","probe","end"] [gC Aj,gC fQ,gC FS,gB bO,gE nQ]
def js:CB dQ:= .K (.expr (.m "skip_line_end" (.v 0 11903110) 11903124 11903126 []) (z 11903126)) (.K (.a 3 (.attr (.v 0 11926818) .at (z 11926821)) 11925609 11925621) (.K (.a 4 (.c 0 11949472 [(.v 1 11950977),(.v 2 11951884)] 11949485) 11948110 11948135) (.K (.ite (.q (.v 4 11971063) .IsNot (.o 11973175) 11971075) (.K (.a 5 (.c 1 11994922 [(.attr (.v 0 11995979) .data (z 11995984)),(.r (.v 3 11997941) .Add (.v 4 11999150) 11997950),(.attr (.v 0 12000358) .end_ (z 12000362))] 11994963) 11993713 11993763) (.K (.expr (.m "skip_line_end" (.v 5 12016213) 12016227 12016229 []) (z 12016229)) (.K (.ite (.val (.m "skip" (.v 5 12039166) 12039171 12039185 [(.bytes [101,110,100,115,116,114,101,97,109] 0 (z 12040834))])) (.K (.setattr (.attr (.v 5 12063629) .at (z 12063632)) (.v 0 12061818) .at (z 12061821) (z 12061832)) (.K (.t (.c 2 12085375 [(.v 1 12086430),(.slice (.attr (.v 0 12087338) .data (z 12087343)) (some (.v 3 12089149)) (some (.r (.v 3 12090055) .Add (.v 4 12091264) 12090064)) none (z 12089164) (z 12087365))] 12085416) 12084366) .nil)) .nil ⟨535,8,537,66⟩) .nil))) .nil ⟨532,4,537,66⟩) (.K (.a 6 (.m "find" (.v 0 12106516) 12106521 12106542 [(.bytes [101,110,100,115,116,114,101,97,109] 0 (z 12108334)),(.v 3 12110441)]) 12105607 12105642) (.K (.ite (.q (.v 6 12128560) .Lt (.i 0 12129464) 12128564) (.K (.dead (bA (bg 0 (bA (bg 0 (tF 72)) 5)) 0)) .nil) .nil ⟨539,4,540,55⟩) (.K (.setattr (.r (.v 6 12174919) .Add (.c 3 12175825 [(.bytes [101,110,100,115,116,114,101,97,109] 0 (z 12176438))] 12175839) 12174939) (.v 0 12173110) .at (z 12173113) (z 12173139)) (.K (.t (.c 2 12196667 [(.v 1 12197722),(.c 4 12198640 [(.slice (.attr (.v 0 12201197) .data (z 12201202)) (some (.v 3 12203008)) (some (.v 6 12203912)) none (z 12203012) (z 12201213))] 12198664)] 12196715) 12195665) .nil)))))))
theorem xN:(js:CB dQ).b=bg 0 (tF 72):=zk
theorem xO (W:WW):eP dQ Ω.w Ω.b 715 (.ref 714) (js:CB dQ).b 3 fun vv=>dQ.names.zip (vv++[]):=
 fO (st:=tF 72) (q:="read_stream") (df:=(.ref 708)) (pm:=nB) W zk zk (by rw[xN];kernel_rfl) zk rfl (fun s vv X hn=>by obtain⟨v0,v1,v2,rfl⟩:=Fw hn;show im X (T:=708) (items:=[.none]) (ps:=[⟨"cursor",none,(z 11882422)⟩,⟨"head",none,(z 11883628)⟩,⟨"shelf",none,(z 11884535)⟩]) zk rfl zk zk (fun fd hp hk=>by obtain⟨⟩:=fd;cases hp;cases hk;show⟨_,rfl,rfl⟩)) zk (jG zk)
def tS:Fn:=bZ "skip_word" (tF 73) ["cursor","word","probe"] [gC fQ,gC oi]
def tT:CB tS:= .K (.a 2 (.c 0 12241818 [(.attr (.v 0 12242875) .data (z 12242880)),(.attr (.v 0 12244838) .at (z 12244841)),(.attr (.v 0 12246499) .end_ (z 12246503))] 12241854) 12240609 12240654) (.K (.expr (.m "skip_white" (.v 2 12263109) 12263120 12263122 []) (z 12263122)) (.K (.ite (.all .Or [(.not (.val (.m "skip" (.v 2 12286666) 12286671 12286677 [(.v 1 12288326)])) (z 12286077)),(.val (.c 1 12289691 [(.m "peek" (.v 2 12291347) 12291352 12291354 [])] 12289705))] (z 12286105)) (.K (.t (.bool false 0 (z 12309770)) 12308720) .nil) .nil ⟨546,4,547,20⟩) (.K (.setattr (.attr (.v 2 12332421) .at (z 12332424)) (.v 0 12330610) .at (z 12330613) (z 12330624)) (.K (.t (.bool true 0 (z 12354165)) 12353115) .nil))))
theorem BX:DT tS 722 721 2 tT:=dm (tF 73) nB
def oJ:Fn:=bZ "take_number" (tF 74) ["cursor","kind","worth","at"] [gC f6]
def oM:CB oJ:= .K (.unpack (.c 0 12400832 [(.v 0 12402489)] 12400840) [(1,(z 12398108)),(2,(z 12399015)),(3,(z 12400069))] 0 (z 12398119) (z 12398140)) (.K (.ite (.all .Or [(.q (.v 1 12421061) .NotEq (.s "int" 12422270) 12421070),(.q (.v 2 12423629) .Lt (.i 0 12424833) 12423633)] (z 12421083)) (.K (.dead (bA (bg 0 (bA (bg 0 (tF 74)) 1)) 0)) .nil) .nil ⟨552,4,553,58⟩) (.K (.t (.v 2 12466666) 12465616) .nil))
theorem xP:DT oJ 729 728 1 oM:=dm (tF 74) nB
def cO:Fn:=bZ "read_indirect" (tF 75) ["cursor","shelf","number","generation","kind","worth","at","value"] [gC v9,gC f6,gC me,gB gW,gB aV,gC Ak,gC v8]
def gx:CB cO:= .K (.a 2 (.c 0 12511974 [(.v 0 12513781)] 12511982) 12510610 12510632) (.K (.a 3 (.c 0 12535078 [(.v 0 12536885)] 12535086) 12533114 12533136) (.K (.unpack (.c 1 12558332 [(.v 0 12559989)] 12558340) [(4,(z 12555608)),(5,(z 12556515)),(6,(z 12557569))] 0 (z 12555619) (z 12555640)) (.K (.ite (.all .Or [(.q (.v 4 12578561) .NotEq (.s "word" 12579771) 12578571),(.q (.v 5 12581280) .NotEq (.bytes [111,98,106] 0 (z 12582640)) 12581290)] (z 12578590)) (.K (.dead (bA (bg 0 (bA (bg 0 (tF 75)) 3)) 0)) .nil) .nil ⟨559,4,560,56⟩) (.K (.a 7 (.c 2 12624323 [(.v 0 12626130)] 12624331) 12623109 12623131) (.K (.ite (.all .And [(.val (.c 4 12646067 [(.v 7 12647723),(.g 3 12648779)] 12646080)),(.val (.c 5 12650294 [(.v 0 12651801),(.bytes [115,116,114,101,97,109] 0 (z 12653012))] 12650313))] (z 12646113)) (.K (.a 7 (.c 6 12669927 [(.v 0 12671734),(.v 7 12672941),(.v 1 12673998)] 12669949) 12668713 12668749) .nil) .nil ⟨562,4,563,49⟩) (.K (.expr (.c 5 12690613 [(.v 0 12692120),(.bytes [101,110,100,111,98,106] 0 (z 12693331))] 12690632) (z 12690632)) (.K (.t (.t 12714188 [(.v 2 12714318),(.v 3 12715530),(.v 7 12717337)]) 12713138) .nil)))))))
theorem uM:(gx:CB cO).b=bg 0 (tF 75):=zk
theorem uN (W:WW):eP cO Ω.w Ω.b 737 (.ref 736) (gx:CB cO).b 1 fun vv=>cO.names.zip (vv++[.none]):=
 fO (st:=tF 75) (q:="read_indirect") (df:=(.ref 730)) (pm:=nB) W zk zk (by rw[uM];kernel_rfl) zk rfl (fun s vv X hn=>by obtain⟨v0,rfl⟩:=xt hn;show im X (T:=730) (items:=[.none]) (ps:=[⟨"cursor",none,(z 12490224)⟩,⟨"shelf",none,(z 12491431)⟩]) zk rfl zk zk (fun fd hp hk=>by obtain⟨⟩:=fd;cases hp;cases hk;show⟨_,rfl,rfl⟩)) zk (jG zk)
def rb:Fn:=bZ "Entry.__init__" (tM 81 0) ["self","way","one","two"] []
def rc:CB rb:= .K (.setattr (.v 1 12917872) (.v 0 12916212) .way (z 12916216) (z 12916222)) (.K (.setattr (.v 2 12940372) (.v 0 12938712) .one (z 12938716) (z 12938722)) (.K (.setattr (.v 3 12962872) (.v 0 12961212) .two (z 12961216) (z 12961222)) .nil))
theorem Al:DT rb 751 750 4 rc:=dm (tM 81 0) qk
def rd:Fn:=bZ "Entry.told" (tM 81 1) ["self"] []
def re:CB rd:= .K (.t (.t 13029795 [(.attr (.v 0 13029920) .way (z 13029924)),(.attr (.v 0 13031430) .one (z 13031434)),(.attr (.v 0 13032940) .two (z 13032944))]) 13028745) .nil
theorem Am:DT rd 758 757 1 re:=dm (tM 81 1) qk
def fh:Fn:=bZ "take_figures" (tF 82) ["cursor","count","total","turn"] [gC gV,gB gn]
def lf:eF fh:=(.name 3 (z 13096212))
def lh:CB fh:= .K (.ite (.not (.val (.c 0 13119774 [(.m "peek" (.v 0 13121281) 13121286 13121288 [])] 13119789)) (z 13119189)) (.K (.dead (bA (bg 0 (bA (bg 0 (bA (bg 0 (tF 82)) 1)) 0)) 0)) .nil) .nil ⟨583,8,584,62⟩) (.K (.a 2 (.r (.r (.r (.i 10 13164918) .Mult (.v 2 13165676) 13164926) .Add (.m "take" (.v 0 13166885) 13166890 13166892 []) 13164942) .Sub (.i 48 13169297) 13164947) 13163713 13163747) .nil)
def mf:CB fh:= .K (.a 2 (.i 0 13074313) 13073109 13073113) (.K (.for_ lf (.c 1 13097421 [(.v 1 13098327)] 13097428) lh ⟨582,4,585,47⟩) (.K (.t (.v 2 13186666) 13185616) .nil))
theorem wb:DT fh 772 771 2 mf:=dm (tF 82) qk
def rf:Fn:=bZ "take_blank" (tF 83) ["cursor"] [gE Hr]
def rg:CB rf:= .K (.ite (.q (.m "peek" (.v 0 13231063) 13231068 13231070 []) .NotEq (.g 0 13233629) 13231079) (.K (.dead (bA (bg 0 (bA (bg 0 (tF 83)) 0)) 0)) .nil) .nil ⟨588,4,589,57⟩) (.K (.expr (.m "take" (.v 0 13275610) 13275615 13275617 []) (z 13275617)) .nil)
theorem An:DT rf 779 778 1 rg:=dm (tF 83) qk
def dz:Fn:=bZ "take_entry_end" (tF 84) ["cursor","end"] []
def rh:eF dz:=(.name 1 (z 13321211))
def ri:CB dz:= .K (.ite (.val (.m "skip" (.v 0 13344167) 13344172 13344177 [(.v 1 13345976)])) (.K (.ret0 (z 13366818)) .nil) .nil ⟨593,8,594,18⟩) .nil
def jR:CB dz:= .K (.for_ rh (.t 13322290 [(.bytes [32,13] 0 (z 13322422)),(.bytes [32,10] 0 (z 13323630)),(.bytes [13,10] 0 (z 13324839))]) ri ⟨592,4,594,18⟩) (.K (.ite (.not (.val (.m "skip_line_end" (.v 0 13389167) 13389181 13389183 [])) (z 13388583)) (.K (.dead (bA (bg 0 (bA (bg 0 (tF 84)) 1)) 0)) .nil) .nil ⟨595,4,596,69⟩) .nil)
theorem sO:DT dz 786 785 1 jR:=dm (tF 84) qk
def rj:Fn:=bZ "take_entry" (tF 85) ["cursor","one","place","two","letter"] [gC uK,gC xH,gE pO,gE BU,gE BS,gC ra,gC BV]
def rk:CB rj:= .K (.a 1 (.c 0 13456522 [(.v 0 13458479),(.i 10 13459683)] 13456534) 13455607 13455634) (.K (.expr (.c 1 13478114 [(.v 0 13479771)] 13478122) (z 13478122)) (.K (.a 2 (.attr (.v 0 13501818) .at (z 13501821)) 13500609 13500621) (.K (.a 3 (.c 0 13524022 [(.v 0 13525979),(.i 5 13527182)] 13524033) 13523107 13523133) (.K (.ite (.q (.v 3 13546060) .Gt (.g 2 13546978) 13546078) (.K (.dead (bA (bg 0 (bA (bg 0 (tF 85)) 4)) 0)) .nil) .nil ⟨602,4,603,60⟩) (.K (.expr (.c 1 13590614 [(.v 0 13592271)] 13590622) (z 13590622)) (.K (.a 4 (.m "peek" (.v 0 13614469) 13614474 13614476 []) 13613110 13613126) (.K (.ite (.all .And [(.q (.v 4 13636063) .NotEq (.g 3 13637575) 13636075),(.q (.v 4 13639536) .NotEq (.g 4 13641048) 13639548)] (z 13636098)) (.K (.dead (bA (bg 0 (bA (bg 0 (tF 85)) 7)) 0)) .nil) .nil ⟨606,4,607,66⟩) (.K (.expr (.m "take" (.v 0 13680610) 13680615 13680617 []) (z 13680617)) (.K (.expr (.c 5 13703118 [(.v 0 13705375)] 13703126) (z 13703126)) (.K (.t (.c 6 13726666 [(.ifexp (.q (.v 4 13729083) .Eq (.g 3 13730595) 13729095) (.s "used" 13727573) (.s "free" 13732707) (z 13727607)),(.v 1 13733912),(.v 3 13734667)] 13726718) 13725668) .nil))))))))))
theorem Ao:DT rj 793 792 1 rk:=dm (tF 85) qk
def rm:Fn:=bZ "take_count" (tF 86) ["cursor","place","found"] []
def ro:CB rm:= .K (.a 1 (.attr (.v 0 13771818) .at (z 13771821)) 13770609 13770621) (.K (.a 2 (.m "number" (.v 0 13794318) 13794325 13794327 []) 13793109 13793127) (.K (.ite (.q (.v 2 13816062) .Is (.o 13817420) 13816070) (.K (.dead (bA (bg 0 (bA (bg 0 (tF 86)) 2)) 0)) .nil) .nil ⟨614,4,615,54⟩) (.K (.t (.v 2 13861666) 13860616) .nil)))
theorem Ap:DT rm 800 799 1 ro:=dm (tF 86) qk
def cY:Fn:=bZ "take_subsection" (tF 87) ["cursor","entries","first","count","number"] [gC xI,gC xJ,gB gn]
def pQ:eF cY:=(.name 4 (z 13996214))
def pR:CB cY:= .K (.ite (.q (.v 4 14019167) .In (.v 1 14020678) 14019178) (.K (.dead (bA (bg 0 (bA (bg 0 (bA (bg 0 (tF 87)) 4)) 0)) 0)) .nil) .nil ⟨623,8,624,86⟩) (.K (.ite (.val (.m "is_done" (.v 0 14064167) 14064175 14064177 [])) (.K (.dead (bA (bg 0 (bA (bg 0 (bA (bg 0 (tF 87)) 4)) 1)) 0)) .nil) .nil ⟨625,8,626,67⟩) (.K (.setitem (.c 1 14111436 [(.v 0 14113093)] 14111444) (.v 1 14108715) (.v 4 14109922) (z 14108723) (z 14108744)) .nil))
def fi:CB cY:= .K (.a 2 (.c 0 13906822 [(.v 0 13908479)] 13906830) 13905609 13905630) (.K (.expr (.m "skip_white" (.v 0 13928110) 13928121 13928123 []) (z 13928123)) (.K (.a 3 (.c 0 13951822 [(.v 0 13953479)] 13951830) 13950609 13950630) (.K (.expr (.m "skip_white" (.v 0 13973110) 13973121 13973123 []) (z 13973123)) (.K (.for_ pQ (.c 2 13997723 [(.v 2 13998629),(.r (.v 2 13999686) .Add (.v 3 14000894) 13999694)] 13997745) pR ⟨622,4,627,44⟩) .nil))))
theorem iU:DT cY 807 806 2 fi:=dm (tF 87) qk
def mh:Fn:=bZ "take_trailer" (tF 88) ["cursor","place","found","fault"] [gC me,gB gW,gB aV]
def mi:CB mh:= .K (.expr (.m "skip_white" (.v 0 14153110) 14153121 14153123 []) (z 14153123)) (.K (.a 1 (.attr (.v 0 14176818) .at (z 14176821)) 14175609 14175621) (.K (.try_ (.K (.a 2 (.c 0 14222427 [(.v 0 14224234)] 14222435) 14221213 14221235) .nil) (He (bA (bg 0 (tF 88)) 2)) ⟨631,4,634,46⟩) (.K (.ite (.not (.val (.c 2 14289171 [(.v 2 14290827),(.g 1 14291883)] 14289184)) (z 14288584)) (.K (.dead (bA (bg 0 (bA (bg 0 (tF 88)) 3)) 0)) .nil) .nil ⟨635,4,636,57⟩) (.K (.t (.v 2 14334166) 14333116) .nil))))
theorem wc:DT mh 814 813 1 mi:=dm (tF 88) qk
def fj:Fn:=bZ "read_classic" (tF 89) ["cursor","entries"] [gC gV,gC pP,gC uL]
def li:CT fj:=(.val (.c 0 14491519 [(.m "peek" (.v 0 14493026) 14493031 14493033 [])] 14491534))
def lj:CB fj:= .K (.expr (.c 1 14513723 [(.v 0 14516130),(.v 1 14517339)] 14513740) (z 14513740)) (.K (.expr (.m "skip_white" (.v 0 14536214) 14536225 14536227 []) (z 14536227)) .nil)
def iu:CB fj:= .K (.expr (.m "skip_white" (.v 0 14378110) 14378121 14378123 []) (z 14378123)) (.K (.ite (.not (.val (.m "skip" (.v 0 14401667) 14401672 14401681 [(.bytes [120,114,101,102] 0 (z 14403480))])) (z 14401081)) (.K (.dead (bA (bg 0 (bA (bg 0 (tF 89)) 1)) 0)) .nil) .nil ⟨640,4,641,59⟩) (.K (.a 1 (.dict0 (z 14447116)) 14445611 14445616) (.K (.expr (.m "skip_white" (.v 0 14468110) 14468121 14468123 []) (z 14468123)) (.K (.while_ li lj ⟨644,4,646,27⟩) (.K (.ite (.not (.val (.m "skip" (.v 0 14559167) 14559172 14559184 [(.bytes [116,114,97,105,108,101,114] 0 (z 14560983))])) (z 14558584)) (.K (.dead (bA (bg 0 (bA (bg 0 (tF 89)) 5)) 0)) .nil) .nil ⟨647,4,648,66⟩) (.K (.t (.t 14604192 [(.v 1 14604319),(.c 2 14605683 [(.v 0 14607640)] 14605691)]) 14603142) .nil))))))
theorem mj:DT fj 821 820 1 iu:=dm (tF 89) qk
def fS:Fn:=bZ "overlaid" (tF 90) ["tables","found","table","number"] []
def tU:eF fS:=(.name 2 (z 14671213))
def tV:eF fS:=(.name 3 (z 14694318))
def tW:CB fS:= .K (.ite (.q (.v 3 14717271) .NotIn (.v 1 14719384) 14717284) (.K (.setitem (.u (.v 2 14742337) (.v 3 14743244) 14742345) (.v 1 14739921) (.v 3 14740828) (z 14739929) (z 14739945)) .nil) .nil ⟨654,12,655,45⟩) .nil
def tX:CB fS:= .K (.for_ tV (.v 2 14695827) tW ⟨653,8,655,45⟩) .nil
def wd:CB fS:= .K (.a 1 (.dict0 (z 14649314)) 14648109 14648114) (.K (.for_ tU (.v 0 14672573) tX ⟨652,4,655,45⟩) (.K (.t (.v 1 14761666) 14760616) .nil))
theorem DJ:DT fS 828 827 1 wd:=dm (tF 90) qk
def rp:Fn:=bZ "find_start" (tF 91) ["data","cursor","place","begun","found"] [gC fQ,gB bO]
def rq:CB rp:= .K (.a 1 (.c 0 14806969 [(.v 0 14808024)] 14806975) 14805610 14805625) (.K (.a 2 (.m "find_last" (.v 1 14829318) 14829328 14829342 [(.bytes [115,116,97,114,116,120,114,101,102] 0 (z 14831891))]) 14828109 14828142) (.K (.ite (.q (.v 2 14851062) .Lt (.i 0 14852266) 14851066) (.K (.dead (bA (bg 0 (bA (bg 0 (tF 91)) 2)) 0)) .nil) .nil ⟨660,4,661,40⟩) (.K (.setattr (.r (.v 2 14897421) .Add (.c 1 14898627 [(.bytes [115,116,97,114,116,120,114,101,102] 0 (z 14899240))] 14898641) 14897441) (.v 1 14895610) .at (z 14895613) (z 14895641)) (.K (.expr (.m "skip_white" (.v 1 14918110) 14918121 14918123 []) (z 14918123)) (.K (.a 3 (.attr (.v 1 14941818) .at (z 14941821)) 14940609 14940621) (.K (.a 4 (.m "number" (.v 1 14964318) 14964325 14964327 []) 14963109 14963127) (.K (.ite (.q (.v 4 14986062) .Is (.o 14987420) 14986070) (.K (.dead (bA (bg 0 (bA (bg 0 (tF 91)) 7)) 0)) .nil) .nil ⟨666,4,667,61⟩) (.K (.ite (.q (.v 4 15031062) .GtE (.c 1 15032419 [(.v 0 15033024)] 15032425) 15031075) (.K (.dead (bA (bg 0 (bA (bg 0 (tF 91)) 8)) 0)) .nil) .nil ⟨668,4,669,83⟩) (.K (.t (.v 4 15076666) 15075616) .nil)))))))))
theorem Aq:DT rp 835 834 1 rq:=dm (tF 91) qk
def Ht:Fn:=bZ "tail" (tF 92) ["offset"] [gB vX]
def Hu:CB Ht:= .K (.t (.r (.r (.bytes [115,116,97,114,116,120,114,101,102,10] 0 (z 15121675)) .Add (.m "encode" (.c 0 15124231 [(.v 0 15124838)] 15124239) 15124246 15124255 [(.s "ascii" 15127104)]) 15121705) .Add (.bytes [10,37,37,69,79,70,10] 0 (z 15128770)) 15121720) 15120670) .nil
theorem MV:DT Ht 842 841 1 Hu:=dm (tF 92) qk
end
set_option tactic.hygienic false
noncomputable section
open MeetsSeq
noncomputable abbrev BY (c T FR:Addr) (x4 x5 x6 x7 x8:Option AV):aO:=[some (.ref c),some (.ref T),some (.bool true),some (.ref FR),x4,x5,x6,x7,x8]
theorem we (W:WW) {σ0:AS} {c N FR f Nf I T:Addr} {D Us:LU} {p n:Nat} {items:List AV} {done:List (NV×PV)} {s:Str} {at_:AV} {x4 x5 x6 x7 x8:Option AV} {Q:ax} (h:xi σ0 σ c N D p FR f Nf I items done) (hT:σ T=some (.tup [.str "name",.str s,at_]))
 (he:items.length%2=0) (hl:items.length+1<=100) (t:Tk) (ht:t.ok Us) (hd:D.drop p=[32]++(t.bytes++Us))
 (hq:∀a T' UH x4 x5 x6 x7 x8,xi σ0 UH c N D (p+1+t.bytes.length) FR f Nf I (items++[.ref a]) done->bv UH a s->UH T'=some (.tup [.str t.kind,t.worth,.int (p+1:Nat)])->aX (aq) au (k+4) Q n (BY c T' FR x4 x5 x6 x7 x8) UH):
 aX (aq) au (k+4) Q (n+1) (BY c T FR x4 x5 x6 x7 x8) σ:=by
 left;show aD hT ⟨rfl,?_⟩;left;show⟨zl,?_⟩;intro L hL;have S1:σ.Sub (σ.set L (.list [])):=AS.Sub.set hL;have H1:=h.sub S1;show l8 H1.fr AS.UJ ?_;left;show aQ (xs:=[]) H1.fr ?_;show ad H1.f.i H1.f.n (f:=631) zk ?_;show dg W H1.f H1.it (by have:=H1.len;lia) ?_;rw[show(([60,60]:LU)==[60,60]&&items.length%2==0)=true by rw[he];rfl];left;show q0 W (S1 _ _ hT) fun a M ha hM hne=>?_;have S2:=AS.Sub.mk (C:=351) (m:=[(.text,.str s)]) ha hM hne;have H2:=H1.sub S2;have N2:bv _ a s:=⟨M,At.new (σ:=σ.set L (.list [])) hne⟩;show⟨zl,?_⟩;intro L2 hL2;have S3:=AS.Sub.set (o:= .list []) hL2;have H3:=H2.sub S3;have N3:=N2.sub S3;show pL H3.fr AS.UJ ?_;left;show aQ (xs:=[]) H3.fr ?_;show AttrJ.of H3.f.i H3.f.n rfl zk rfl ?_;show bV H3.it ?_;show dx H3.it (by have:=H3.len;lia) ?_;have hd':∃b r,items++[.ref a]= .ref b::r:=by
  rcases H3.hd with ⟨rfl,-⟩ | ⟨b,r,rfl⟩
  . show⟨a,[],rfl⟩
  . show⟨b,r++[.ref a],rfl⟩
 have H4:=H3.put (v:= .ref a) (done':=done) hd' hl (.inl rfl);have N4:=N3.set (x:= .list (items++[.ref a])) H3.it (fun _=>nofun) nofun
 show bC W H4.C t (fun c hc=>by rw[dK] at hc;rw[hc];rfl) ht hd fun T' hT'=>?_;have lt:p+1+t.bytes.length<=D.length:=by
  have:=aB hd h.C.le;have:=aB (ac hd) this;simpa using this
 have H5:=H4.move lt;have S5:=AS.Sub.set (o:= .tup [.str t.kind,t.worth,.int (p+1:Nat)]) hT';show⟨hq a T' _ _ _ _ _ _ (H5.sub S5) (bv.sub (N4.set H4.C.n (fun _=>nofun) (fun e=>by cases e)) S5) AS.UJ⟩
theorem BZ (W:WW) {σ0:AS} {c N FR f Nf I T a:Addr} {D Us:LU} {p n:Nat} {items:List AV} {done:List (NV×PV)} {s kd:Str} {wo at_:AV} {x:PV} {x4 x5 x6 x7 x8:Option AV} {Q:ax} (h:xi σ0 σ c N D p FR f Nf I items done) (hT:σ T=some (.tup [.str kd,wo,at_])) (hk:(kd==("sign":Str))=false)
 (ho:items.length%2=1) (hl:items.length+1<=100) (hN:bv σ a s) (t:Tk) (ht:t.ok Us) (hd:D.drop p=[32]++(t.bytes++Us))
 (hpv:∀(σ1:AS) (Q':aG),σ.Sub σ1->(∀v σ2,σ1.Sub σ2->gL σ2 v x->Q' v σ2)->aa (k+4) (.ref 666) [.ref c,.ref T,.bool true] σ1 Q' fun _ _=>False)
 (hq:∀v T' UH x4 x5 x6 x7 x8,xi σ0 UH c N D (p+1+t.bytes.length) FR f Nf I (items++[v]) (done++[(⟨a,s,v⟩,x)])->UH T'=some (.tup [.str t.kind,t.worth,.int (p+1:Nat)])->aX (aq) au (k+4) Q n (BY c T' FR x4 x5 x6 x7 x8) UH):
 aX (aq) au (k+4) Q (n+1) (BY c T FR x4 x5 x6 x7 x8) σ:=by
 left;show aD hT ⟨rfl,?_⟩;show Br.neg hk ?_;show⟨zl,?_⟩;intro L hL;have S1:σ.Sub (σ.set L (.list [])):=AS.Sub.set hL;have H1:=h.sub S1;show l8 H1.fr AS.UJ ?_;left;show aQ (xs:=[]) H1.fr ?_;show ad H1.f.i H1.f.n (f:=631) zk ?_;show dg W H1.f H1.it (by have:=H1.len;lia) ?_;rw[show(([60,60]:LU)==[60,60]&&items.length%2==0)=false by rw[ho];rfl];rw[hk];left;show Br.neg hk ?_;walk_at "w";show hpv _ _ S1 fun v σ2 S2 V2=>?_;have H2:=H1.sub S2;show⟨zl,?_⟩;intro L2 hL2;have S3:=AS.Sub.set (o:= .list []) hL2;have H3:=H2.sub S3;have N3:=hN.sub ((S1.trans S2).trans S3);have V3:=V2.sub S3;show pL H3.fr AS.UJ ?_;left;show aQ (xs:=[]) H3.fr ?_;show AttrJ.of H3.f.i H3.f.n rfl zk rfl ?_;show bV H3.it ?_;show dx H3.it (by have:=H3.len;lia) ?_;have hi:∃b r,items= .ref b::r:=by
  rcases H3.hd with ⟨rfl,-⟩ | hi
  . cases ho
  . show hi
 have hd':∃b r,items++[v]= .ref b::r:=by
  show sn hi fun b r hr2=>?_;rw[hr2];show⟨b,r++[v],rfl⟩
 have H4:=H3.put (v:=v) (done':=done++[(⟨a,s,v⟩,x)]) hd' hl (.inr ⟨_,rfl,hi,N3,V3⟩);show bC W H4.C t (fun c hc=>by rw[dK] at hc;rw[hc];rfl) ht hd fun T' hT'=>?_;have lt:p+1+t.bytes.length<=D.length:=by
  have:=aB hd h.C.le;have:=aB (ac hd) this;simpa using this
 have H5:=H4.move lt;have S5:=AS.Sub.set (o:= .tup [.str t.kind,t.worth,.int (p+1:Nat)]) hT';show⟨hq v T' _ _ _ _ _ _ (H5.sub S5) AS.UJ⟩
theorem FT (W:WW) {σ0:AS} {c N FR T:Addr} {D Us:LU} {p n:Nat} {at_:AV} {x4 x5 x6 x7 x8:Option AV} {Q:ax} (C:cV σ c N D p) (hFR:σ FR=some (.list [])) (hB:σ0.But N σ) (h0:σ0 FR=none) (h0N:∃o,σ0 N=some o) (hT:σ T=some (.tup [.str "sign",.bytes [60,60],at_]))
 (t:Tk) (ht:t.ok Us) (hd:D.drop p=[32]++(t.bytes++Us))
 (hq:∀f Nf I T' UH x4 x5 x6 x7 x8,xi σ0 UH c N D (p+1+t.bytes.length) FR f Nf I [] []->UH T'=some (.tup [.str t.kind,t.worth,.int (p+1:Nat)])->aX (aq) au (k+4) Q n (BY c T' FR x4 x5 x6 x7 x8) UH):
 aX (aq) au (k+4) Q (n+1) (BY c T FR x4 x5 x6 x7 x8) σ:=by
 left;show aD hT ⟨rfl,?_⟩;left;show⟨zl,?_⟩;intro U hU;have S1:=AS.Sub.set (o:= .tup [.bytes [91],.bytes [60,60]]) hU;show dy (bs:=[[91],[60,60]]) (.inl AS.UJ) ?_;show⟨zl,?_⟩;intro L hL;have S2:=S1.trans (AS.Sub.set (o:= .list []) hL);show l8 (S2 _ _ hFR) AS.UJ ?_;left;show bE (S2 _ _ hFR) zd ?_;left;show bV (S2 _ _ hFR) ?_;show EJ W fun f Nf I h1 h2 h3 h4 h5 h6=>?_;have hI:(((σ.set U (.tup [.bytes [91],.bytes [60,60]])).set L (.list [])).mk f Nf 634 (MU I)) I=none:=(AS.UK h5).trans ((AS.UK h6).trans h3);have S3:=S2.trans ((AS.Sub.mk (C:=634) (m:=MU I) h1 h2 h4).trans (AS.Sub.set (o:= .list []) hI));have A3:At ((((σ.set U (.tup [.bytes [91],.bytes [60,60]])).set L (.list [])).mk f Nf 634 (MU I)).set I (.list [])) f Nf 634 (MU I):=(At.new h4).sub (AS.Sub.set hI);have nI:FR≠I:=fun e=>by
  have:=S2 _ _ hFR;rw[e,h3] at this;cases this
 have nN:I≠N:=fun e=>by
  have:=S2 _ _ C.n;rw[<-e,h3] at this;cases this
 have i0:σ0 I=none:=by
  cases e:σ0 I with
  | none=>rfl
  | some o=>
   have:=S2 _ _ (hB I o nN e);rw[h3] at this;cases this
 show dx (xs:=[]) (S3 _ _ hFR) zd ?_;have H:xi σ0 (((((σ.set U (.tup [.bytes [91],.bytes [60,60]])).set L (.list [])).mk f Nf 634 (MU I)).set I (.list [])).set FR (.list [.ref f])) c N D p FR f Nf I [] []:=
  ⟨(C.sub S3).keep (S3 _ _ hFR) nofun nofun,AS.UJ,A3.keep (S3 _ _ hFR) nofun nofun,(AS.UK (ez nI)).trans AS.UJ,nI,.inl ⟨rfl,rfl⟩,(fun _ hz=>nomatch hz),(hB.sub S3).set (.inr h0),h0,i0,zd⟩
 show bC W H.C t (fun c hc=>by rw[dK] at hc;rw[hc];rfl) ht hd fun T' hT'=>?_;have lt:p+1+t.bytes.length<=D.length:=by
  have:=aB hd C.le;have:=aB (ac hd) this;simpa using this
 show⟨hq f Nf I T' _ _ _ _ _ _ ((H.move lt).sub (AS.Sub.set hT')) AS.UJ⟩
theorem Ar (W:WW) {FR f Nf I:Addr} {all:List NV} {at_:AV} (hFR:σ FR=some (.list [.ref f])) (hf:At σ f Nf 634 (MU I)) (hI:σ I=some (.list (fB all))) (nI:FR≠I) (nd:(all.map (·.s)).Nodup) (hz:all.length<=1000) (hn:∀y∈all,bv σ y.a y.s) (hv:∀y∈all,bB y.v=false)
 (hq:∀p ep,(σ.set FR (.list [])) p=none->Q (.ref p) ((σ.set FR (.list [])).set p (.dict ep (cx all)))):aa (k+3) (.ref 678) [.ref FR,.bytes [62,62],at_] σ Q X:=by
 show aa.forget ?_;show(af W jp (oA W) rfl zd ?_).call;left;show⟨zl,?_⟩;intro L hL;have S1:=AS.Sub.set (o:= .list []) hL;have g1:=S1 _ _ hFR;have f1:=hf.sub S1;show pL g1 AS.UJ ?_;left;show aQ (xs:=[]) g1 ?_;show AttrJ.of f1.i f1.n rfl zk rfl ?_;left;show vT g1 ?_;show G3 (xs:=[]) g1 zd ?_;have e2:(σ.set L (.list [])).set FR (.list [])=(σ.set FR (.list [])).set L (.list []):=AS.UN (aR hL hFR);have hL2:(σ.set FR (.list [])) L=none:=(AS.UK (aR hL hFR)).trans hL;have S2:=AS.Sub.set (o:= .list []) hL2;rw[e2];have f2:=(hf.keep (x:= .list []) hFR nofun nofun).sub S2;have i2:=S2 _ _ ((AS.UK (o:= .list []) (ez nI)).trans hI);left;show ad f2.i f2.n (f:=631) zk ?_;show dg W f2 i2 (by rw[bF];lia) ?_;rw[show(([60,60]:LU)==[60,60]&&(fB all).length%2==0)=true by rw[bF,Nat.mul_mod_right];rfl];left;show AttrJ.of f2.i f2.n rfl zk rfl ?_;show FP W nd hz i2 (fun y hy=>((hn y hy).set hFR (fun _=>nofun) nofun).sub S2) hv fun p ep hp=>?_;show aL (AS.UM hp) fun hp1 hp2=>?_;show⟨_,S2.up,hq p ep hp2⟩
theorem B1 (W:WW) {FR f f2 N2 I2:Addr} {at_:AV} (hFR:σ FR=some (.list [.ref f,.ref f2])) (hf:At σ f2 N2 634 (DH I2)) (hq:Q (.ref I2) (σ.set FR (.list [.ref f]))):aa (k+3) (.ref 678) [.ref FR,.bytes [93],at_] σ Q X:=by
 show aa.forget ?_;show(af W jp (oA W) rfl zd ?_).call;left;show⟨zl,?_⟩;intro L hL;have S1:=AS.Sub.set (o:= .list []) hL;have g1:=S1 _ _ hFR;have f1:=hf.sub S1;show pL g1 AS.UJ ?_;left;show aQ (xs:=[.ref f]) g1 ?_;show AttrJ.of f1.i f1.n rfl zk rfl ?_;left;show vT g1 ?_;show G3 (xs:=[.ref f]) g1 zl ?_;have e2:(σ.set L (.list [])).set FR (.list [.ref f])=(σ.set FR (.list [.ref f])).set L (.list []):=AS.UN (aR hL hFR);have hL2:(σ.set FR (.list [.ref f])) L=none:=(AS.UK (aR hL hFR)).trans hL;have S2:=AS.Sub.set (o:= .list []) hL2;rw[e2];have f2:=(hf.keep (x:= .list [.ref f]) hFR nofun nofun).sub S2;left;show AttrJ.of f2.i f2.n rfl zk rfl ?_;show⟨_,S2,hq⟩
theorem DK (W:WW) {σ0:AS} {c N FR f Nf I T:Addr} {D:LU} {p n:Nat} {done:List (NV×PV)} {at_:AV} {x4 x5 x6 x7 x8:Option AV} {Q:ax} (h:xi σ0 σ c N D p FR f Nf I (fB (done.map (·.1))) done) (hT:σ T=some (.tup [.str "sign",.bytes [62,62],at_]))
 (nd:(done.map (·.1.s)).Nodup)
 (hq:∀l d ep UH,σ0.But N UH->UH c=some (.inst 211 N)->UH N=some (bb D p)->UH d=some (.dict ep (cx (done.map (·.1))))->fR UH done->σ0 d=none->Q (.ret (.ref d)) l UH):
 aX (aq) au (k+4) Q (n+1) (BY c T FR x4 x5 x6 x7 x8) σ:=by
 have hlen:done.length<=50:=by
  have:=h.len;rw[bF,a9] at this;lia
 left;show aD hT ⟨rfl,?_⟩;left;show⟨zl,?_⟩;intro U hU;have S1:=AS.Sub.set (o:= .tup [.bytes [91],.bytes [60,60]]) hU;show dy (bs:=[[91],[60,60]]) (.inl AS.UJ) ?_;show⟨zl,?_⟩;intro L hL;have S2:=S1.trans (AS.Sub.set (o:= .list []) hL);have H2:=h.sub S2;show l8 H2.fr AS.UJ ?_;left;show aQ (xs:=[]) H2.fr ?_;show ad H2.f.i H2.f.n (f:=631) zk ?_;show dg W H2.f H2.it (by have:=H2.len;lia) ?_;rw[show(([60,60]:LU)==[60,60]&&(fB (done.map (·.1))).length%2==0)=true by rw[bF,Nat.mul_mod_right];rfl];left;show FN W (S2 _ _ hT) (fun e=>absurd rfl e) (fun _=>⟨_,rfl,?_⟩);left;show⟨zl,?_⟩;intro U2 hU2;have S3:=AS.Sub.set (o:= .tup [.bytes [93],.bytes [62,62]]) hU2;have H3:=H2.sub S3;show dy (bs:=[[93],[62,62]]) (.inl AS.UJ) ?_;left;show Ar W H3.fr H3.f H3.it H3.ne (by rw[bq];show nd) zm (fun y hy=>?_) (fun y hy=>?_) fun d ep hd=>?_
 . show ae (bp.mp hy) fun z hz hr2=>?_;subst hr2;show(H3.pr z hz).1
 . show ae (bp.mp hy) fun z hz hr2=>?_;subst hr2;show(H3.pr z hz).2.notNone
 have S4:=AS.Sub.set (o:= .dict ep (cx (done.map (·.1)))) hd;have hFR4:=S4 _ _ (AS.UJ (σ:=((σ.set U (.tup [.bytes [91],.bytes [60,60]])).set L (.list [])).set U2 (.tup [.bytes [93],.bytes [62,62]])) (a:=FR) (o:= .list []));have C4:=(H3.C.keep (x:= .list []) H3.fr nofun nofun).sub S4;have B4:=(H3.ext.set (x:= .list []) (.inr H3.n0)).sub S4;have P4:=(H3.pr.set (y:= .list []) H3.fr ⟨f,[],rfl⟩).sub S4;show aL (AS.UM hd) fun dn1 dn2=>?_;show⟨zl,?_⟩;intro L2 hL2;have S5:=AS.Sub.set (o:= .list []) hL2;show pL (S5 _ _ hFR4) AS.UJ ?_;left;have d0:σ0 d=none:=by
  by_cases e:d=N
  . rw[e] at dn2;rw[H3.C.n] at dn2;cases dn2
  . cases q:σ0 d with
    | none=>rfl
    | some o=>
     have:=H3.ext d o e q;rw[dn2] at this;cases this
 show hq _ d ep _ (B4.sub S5) (C4.sub S5).i (C4.sub S5).n (S5 _ _ AS.UJ) (P4.sub S5) d0
noncomputable abbrev iv (ds:LU):AV:= .int (ay 0 ds)
structure xQ (σ0 σ1 σ:AS) (c N:Addr) (D:LU) (p:Nat) (FR f Nf I f2 N2 I2:Addr) (items:List AV) (done:List (NV×PV)) (Uq:List LU):Prop where
 d:xi σ0 σ1 c N D p FR f Nf I items done
 sub:(σ1.set FR (.list [.ref f,.ref f2])).Sub σ
 a:At σ f2 N2 634 (DH I2)
 it:σ I2=some (.list (Uq.map iv))
 i0:σ1 I2=none
 len:Uq.length<=100
variable {σ0 σ1:AS} {c N FR f Nf I f2 N2 I2:Addr} {D:LU} {p:Nat} {items:List AV} {done:List (NV×PV)} {Uq:List LU}
theorem xQ.fr {σ:AS} (h:xQ σ0 σ1 σ c N D p FR f Nf I f2 N2 I2 items done Uq):σ FR=some (.list [.ref f,.ref f2]):=h.sub _ _ AS.UJ
theorem xQ.C {σ:AS} (h:xQ σ0 σ1 σ c N D p FR f Nf I f2 N2 I2 items done Uq):cV σ c N D p:=(h.d.C.keep h.d.fr nofun nofun).sub h.sub
theorem xQ.grow {σ UH:AS} (h:xQ σ0 σ1 σ c N D p FR f Nf I f2 N2 I2 items done Uq) (S:σ.Sub UH):xQ σ0 σ1 UH c N D p FR f Nf I f2 N2 I2 items done Uq:=
 ⟨h.d,h.sub.trans S,h.a.sub S,S _ _ h.it,h.i0,h.len⟩
theorem xQ.ne {σ:AS} (h:xQ σ0 σ1 σ c N D p FR f Nf I f2 N2 I2 items done Uq):I2≠FR:=aR h.i0 h.d.fr
theorem xQ.move {σ:AS} {q:Nat} (h:xQ σ0 σ1 σ c N D p FR f Nf I f2 N2 I2 items done Uq) (hq:q<=D.length):xQ σ0 (σ1.set N (bb D q)) (σ.set N (bb D q)) c N D q FR f Nf I f2 N2 I2 items done Uq:=by
 have nF:N≠FR:=fun e=>by have:=h.d.fr;rw[<-e,h.d.C.n] at this;cases this
 show⟨h.d.move hq,?_,h.a.keep h.C.n nofun (fun e=>by cases e),aA h.it h.C.n nofun,(AS.UK (aR h.i0 h.d.C.n)).trans h.i0,h.len⟩;rw[AS.UN nF];show h.sub.up
theorem xQ.put {σ:AS} {ds:LU} (h:xQ σ0 σ1 σ c N D p FR f Nf I f2 N2 I2 items done Uq) (hl:Uq.length+1<=100):xQ σ0 σ1 (σ.set I2 (.list (Uq.map iv++[iv ds]))) c N D p FR f Nf I f2 N2 I2 items done (Uq++[ds]):=by
 show⟨h.d,fun a o e=>?_,h.a.keep h.it nofun nofun,by rw[AS.UJ];simp,h.i0,by rw[j7];lia⟩;have ne:a≠I2:=by
  rintro rfl;rw[AS.UK h.ne,h.i0] at e;cases e
 show(AS.UK ne).trans (h.sub _ _ e)
theorem Tk.fit {t:Tk} {Us:LU} {D:LU} {p:Nat} (hd:D.drop p=[32]++(t.bytes++Us)) (hp:p<=D.length):p+1+t.bytes.length<=D.length:=by
 have:=aB hd hp;have:=aB (ac hd) this;simpa using this
theorem DL (W:WW) {T:Addr} {Us:LU} {n:Nat} {at_:AV} {x4 x5 x6 x7 x8:Option AV} {Q:ax} (h:xi σ0 σ c N D p FR f Nf I items done) (ho:items.length%2=1) (hT:σ T=some (.tup [.str "sign",.bytes [91],at_]))
 (t:Tk) (ht:t.ok Us) (hd:D.drop p=[32]++(t.bytes++Us))
 (hq:∀f2 N2 I2 T' σ1 UH x4 x5 x6 x7 x8,(σ.set N (bb D (p+1+t.bytes.length))).Sub σ1->xQ σ0 σ1 UH c N D (p+1+t.bytes.length) FR f Nf I f2 N2 I2 items done []->UH T'=some (.tup [.str t.kind,t.worth,.int (p+1:Nat)])->aX (aq) au (k+4) Q n (BY c T' FR x4 x5 x6 x7 x8) UH):
 aX (aq) au (k+4) Q (n+1) (BY c T FR x4 x5 x6 x7 x8) σ:=by
 left;show aD hT ⟨rfl,?_⟩;left;show⟨zl,?_⟩;intro U hU;have S1:=AS.Sub.set (o:= .tup [.bytes [91],.bytes [60,60]]) hU;show dy (bs:=[[91],[60,60]]) (.inl AS.UJ) ?_;show⟨zl,?_⟩;intro L hL;have S2:=S1.trans (AS.Sub.set (o:= .list []) hL);have H2:=h.sub S2;show l8 H2.fr AS.UJ ?_;left;show aQ (xs:=[]) H2.fr ?_;show ad H2.f.i H2.f.n (f:=631) zk ?_;show dg W H2.f H2.it (by have:=H2.len;lia) ?_;rw[show(([60,60]:LU)==[60,60]&&items.length%2==0)=false by rw[ho];rfl];left;show bE H2.fr zl ?_;left;show bV H2.fr ?_;show EJ W fun f2 N2 I2 h1 h2 h3 h4 h5 h6=>?_;have hI:(((σ.set U (.tup [.bytes [91],.bytes [60,60]])).set L (.list [])).mk f2 N2 634 (DH I2)) I2=none:=(AS.UK h5).trans ((AS.UK h6).trans h3);have S3:=(AS.Sub.mk (C:=634) (m:=DH I2) h1 h2 h4).trans (AS.Sub.set (o:= .list []) hI);have H3:=H2.sub S3;have A3:At ((((σ.set U (.tup [.bytes [91],.bytes [60,60]])).set L (.list [])).mk f2 N2 634 (DH I2)).set I2 (.list [])) f2 N2 634 (DH I2):=(At.new h4).sub (AS.Sub.set hI);show dx (xs:=[.ref f]) H3.fr zl ?_;have H:xQ σ0 ((σ.set U (.tup [.bytes [91],.bytes [60,60]])).set L (.list [])) (((((σ.set U (.tup [.bytes [91],.bytes [60,60]])).set L (.list [])).mk f2 N2 634 (DH I2)).set I2 (.list [])).set FR (.list [.ref f,.ref f2])) c N D p FR f Nf I f2 N2 I2 items done []:=
  ⟨H2,S3.up,A3.keep H3.fr nofun nofun,(AS.UK (aR h3 H2.fr)).trans AS.UJ,h3,zd⟩
 show bC W H.C t (fun c hc=>by rw[dK] at hc;rw[hc];rfl) ht hd fun T' hT'=>?_;show⟨hq f2 N2 I2 T' _ _ _ _ _ _ _ S2.up ((H.move (Tk.fit hd h.C.le)).grow (AS.Sub.set hT')) AS.UJ⟩
theorem FU (W:WW) {T:Addr} {Us ds:LU} {n:Nat} {at_:AV} {x4 x5 x6 x7 x8:Option AV} {Q:ax} (h:xQ σ0 σ1 σ c N D p FR f Nf I f2 N2 I2 items done Uq) (hT:σ T=some (.tup [.str "int",iv ds,at_])) (hn:oB (D.drop p)) (hl:Uq.length+1<=100)
 (t:Tk) (ht:t.ok Us) (hd:D.drop p=[32]++(t.bytes++Us))
 (hq:∀T' UH x4 x5 x6 x7 x8,xQ σ0 (σ1.set N (bb D (p+1+t.bytes.length))) UH c N D (p+1+t.bytes.length) FR f Nf I f2 N2 I2 items done (Uq++[ds])->UH T'=some (.tup [.str t.kind,t.worth,.int (p+1:Nat)])->aX (aq) au (k+4) Q n (BY c T' FR x4 x5 x6 x7 x8) UH):
 aX (aq) au (k+4) Q (n+1) (BY c T FR x4 x5 x6 x7 x8) σ:=by
 left;show aD hT ⟨rfl,?_⟩;left;show⟨zl,?_⟩;intro L hL;have S1:=AS.Sub.set (o:= .list []) hL;have H1:=h.grow S1;show l8 H1.fr AS.UJ ?_;left;show aQ (xs:=[.ref f]) H1.fr ?_;show ad H1.a.i H1.a.n (f:=631) zk ?_;show dg W H1.a H1.it (by simp;have:=H1.len;lia) ?_;rw[show(([91]:LU)==[60,60]&&(Uq.map iv).length%2==0)=false by rfl];left;show tO W H1.C (S1 _ _ hT) hn ?_;show⟨zl,?_⟩;intro L2 hL2;have S2:=AS.Sub.set (o:= .list []) hL2;have H2:=H1.grow S2;show pL H2.fr AS.UJ ?_;left;show aQ (xs:=[.ref f]) H2.fr ?_;show AttrJ.of H2.a.i H2.a.n rfl zk rfl ?_;show bV H2.it ?_;show dx H2.it (by simp;have:=H2.len;lia) ?_;have H3:=H2.put (ds:=ds) hl;show bC W H3.C t (fun c hc=>by rw[dK] at hc;rw[hc];rfl) ht hd fun T' hT'=>?_;show⟨hq T' _ _ _ _ _ _ ((H3.move (Tk.fit hd h.C.le)).grow (AS.Sub.set hT')) AS.UJ⟩
theorem B2 (W:WW) {T a:Addr} {Us:LU} {n:Nat} {s:Str} {at_:AV} {x4 x5 x6 x7 x8:Option AV} {Q:ax} (h:xQ σ0 σ1 σ c N D p FR f Nf I f2 N2 I2 items done Uq) (hT:σ T=some (.tup [.str "sign",.bytes [93],at_])) (hN:bv σ1 a s) (ho:items.length%2=1) (hl:items.length+1<=100)
 (t:Tk) (ht:t.ok Us) (hd:D.drop p=[32]++(t.bytes++Us))
 (hq:∀T' UH x4 x5 x6 x7 x8,xi σ0 UH c N D (p+1+t.bytes.length) FR f Nf I (items++[.ref I2]) (done++[(⟨a,s,.ref I2⟩,.arr Uq)])->UH T'=some (.tup [.str t.kind,t.worth,.int (p+1:Nat)])->aX (aq) au (k+4) Q n (BY c T' FR x4 x5 x6 x7 x8) UH):
 aX (aq) au (k+4) Q (n+1) (BY c T FR x4 x5 x6 x7 x8) σ:=by
 left;show aD hT ⟨rfl,?_⟩;left;show⟨zl,?_⟩;intro U hU;have S1:=AS.Sub.set (o:= .tup [.bytes [91],.bytes [60,60]]) hU;show dy (bs:=[[91],[60,60]]) (.inl AS.UJ) ?_;show⟨zl,?_⟩;intro L hL;have S2:=S1.trans (AS.Sub.set (o:= .list []) hL);have H2:=h.grow S2;show l8 H2.fr AS.UJ ?_;left;show aQ (xs:=[.ref f]) H2.fr ?_;show ad H2.a.i H2.a.n (f:=631) zk ?_;show dg W H2.a H2.it (by simp;have:=H2.len;lia) ?_;rw[show(([91]:LU)==[60,60]&&(Uq.map iv).length%2==0)=false by rfl];left;show⟨zl,?_⟩;intro U2 hU2;have S3:=AS.Sub.set (o:= .tup [.bytes [93],.bytes [62,62]]) hU2;have H3:=H2.grow S3;show dy (bs:=[[93],[62,62]]) (.inl AS.UJ) ?_;left;show B1 W H3.fr H3.a ?_;have S4:σ1.Sub (((((σ.set U (.tup [.bytes [91],.bytes [60,60]])).set L (.list [])).set U2 (.tup [.bytes [93],.bytes [62,62]]))).set FR (.list [.ref f])):=by
  have:=H3.sub.up (a:=FR) (o:= .list [.ref f]);rw[AS.UL,AS.set_id H3.d.fr] at this;show this
 have H4:=h.d.sub S4;have N4:=hN.sub S4;have I4:(((((σ.set U (.tup [.bytes [91],.bytes [60,60]])).set L (.list [])).set U2 (.tup [.bytes [93],.bytes [62,62]]))).set FR (.list [.ref f])) I2=some (.list (Uq.map iv)):=(AS.UK H3.ne).trans H3.it;show⟨zl,?_⟩;intro L2 hL2;have S5:=AS.Sub.set (o:= .list []) hL2;have H5:=H4.sub S5;show pL H5.fr AS.UJ ?_;left;show aQ (xs:=[]) H5.fr ?_;show AttrJ.of H5.f.i H5.f.n rfl zk rfl ?_;show bV H5.it ?_;show dx H5.it (by have:=H5.len;lia) ?_;have hi:∃b r,items= .ref b::r:=by
  rcases H5.hd with ⟨rfl,-⟩ | hi
  . cases ho
  . show hi
 have hd':∃b r,items++[.ref I2]= .ref b::r:=by
  show sn hi fun b r hr2=>?_;rw[hr2];show⟨b,r++[.ref I2],rfl⟩
 have V5:gL _ (.ref I2) (.arr Uq):=⟨I2,rfl,S5 _ _ I4⟩;have H6:=H5.put (v:= .ref I2) (done':=done++[(⟨a,s,.ref I2⟩,.arr Uq)]) hd' hl (.inr ⟨_,rfl,hi,N4.sub S5,V5⟩);show bC W H6.C t (fun c hc=>by rw[dK] at hc;rw[hc];rfl) ht hd fun T' hT'=>?_;show⟨hq T' _ _ _ _ _ _ ((H6.move (Tk.fit hd h.C.le)).sub (AS.Sub.set hT')) AS.UJ⟩
end
noncomputable section
open MeetsSeq
noncomputable def aC:List Tk->LU
 | []=>[]
 | t::r=>32::(t.bytes++aC r)
noncomputable def fH:List LU->Tk
 | []=> .arrEnd
 | ds::_=> .int ds
noncomputable def dR:List LU->List Tk
 | []=>[]
 | _::r=>fH r::dR r
abbrev cU:=LU×PV
noncomputable def PV.toks:PV->List Tk
 | .int ds=>[.int ds]
 | .name r=>[.name r]
 | .arr dss=> .arr::fH dss::dR dss
noncomputable def dh:List cU->Tk
 | []=> .cls
 | (r,_)::_=> .name r
noncomputable def cB:List cU->List Tk
 | []=>[]
 | (_,x)::l=>x.toks++dh l::cB l
abbrev dA (ds:LU):Prop:=(∀c∈ds,gw c=true)/\ds≠[]/\ds.length<=40
abbrev bx (r:LU):Prop:=(∀c∈r,qD c=true/\c≠35/\c≠0)/\r.length<=40
def PV.good:PV->Prop
 | .int ds=>dA ds
 | .name r=>bx r
 | .arr dss=>dss.length<=99/\∀ds∈dss,dA ds
theorem wf {x:LU}:BE (32::x):=by change qD 32=false;decide
theorem Hv {ds x:LU} (h:dA ds):(Tk.int ds).ok (32::x):=⟨h.1,h.2.1,h.2.2,wf⟩
theorem EL {r x:LU} (h:bx r):(Tk.name r).ok (32::x):=⟨h.1,h.2,wf⟩
theorem bG {t:Tk} {l:List Tk} {x:LU}:aC (t::l)++x=[32]++(t.bytes++(aC l++x)):=by
 change(32::(t.bytes++aC l))++x=_;rw[List.cons_append,u9];rfl
theorem oO {l m:List Tk}:aC (l++m)=aC l++aC m:=by
 induction l with
 | nil=>rfl
 | cons t l ih=>change 32::(t.bytes++aC (l++m))=32::(t.bytes++aC l)++aC m;rw[ih];simp
theorem fk:∀c∈([32]:LU),qm c=true:=fun c hc=>by rw[dK] at hc;subst hc;rfl
theorem DM {d:UInt8} {x:LU} (h1:qD d=false) (h2:qm d=false) (h3:d≠37):oB (32::d::x):=
 ⟨[32],[],[],[],d::x,rfl,fk,⟨h2,h3⟩,aF,zd,h1,aF,⟨h2,h3⟩,aF,h1,nofun⟩
theorem rr {d:UInt8} {x:LU} (h:gw d=true):sG (d::x):=EI (qY h)
theorem As {ds x:LU} (h:dA ds):sG (ds++x):=by
 show sn (IN h.2.1) fun d r hr2=>?_;subst hr2;show rr (h.1 d bJ)
theorem Hw {ds run2 x:LU} (h:dA ds) (h2:∀c∈run2,qD c=true) (h3:BE x) (h4:sG (run2++x)) (h5:run2≠[82]):oB ([32]++(ds++([32]++(run2++x)))):=
 ⟨[32],ds,[32],run2,x,rfl,fk,As h,h.1,h.2.2,wf,fk,h4,h2,h3,h5⟩
theorem FV {dss:List LU} {x:LU} (h:∀ds∈dss,dA ds):oB ([32]++((fH dss).bytes++(aC (dR dss)++32::x))):=by
 cases dss with
 | nil=>show DM zd zd zd
 | cons ds r=>
  have g:=h ds bJ;change oB ([32]++(ds++(aC (fH r::dR r)++32::x)));rw[bG];cases r with
  | nil=>show Hw (run2:=[]) g aF (by change qD 93=false;decide) ⟨by decide,by decide⟩ nofun
  | cons e r=>
   have g2:=h e zs;show Hw (run2:=e) g (fun c hc=>qY (g2.1 c hc)) ?_ (As g2) ?_
   . cases r<;>show wf
   . rintro rfl;show absurd (g2.1 82 bJ) zd
theorem cI {t:Tk} {l:List Tk}:(aC (t::l)).length=1+t.bytes.length+(aC l).length:=by
 change(32::(t.bytes++aC l)).length=_;simp;lia
variable {σ0:AS} {c N FR f Nf I f2 N2 I2:Addr} {D:LU} {items:List AV} {done:List (NV×PV)}
theorem yZ {r:List LU} (hg:∀x∈r,dA x) (R:LU):(fH r).ok (aC (dR r)++([32]++R)):=by
 cases r with
 | nil=>show trivial
 | cons e2 r=>
  have g2:=hg e2 bJ;cases r<;>show Hv g2
theorem Hx (W:WW) {a:Addr} {Us:LU} {n:Nat} {s:Str} {Q:ax} (ho:items.length%2=1) (hl:items.length+1<=100) (t:Tk) (ht:t.ok Us):
 ∀(dss Uq:List LU) (σ1 σ:AS) (p:Nat) (T:Addr) (at_:AV) (x4 x5 x6 x7 x8:Option AV),xQ σ0 σ1 σ c N D p FR f Nf I f2 N2 I2 items done Uq->bv σ1 a s->σ T=some (.tup [.str (fH dss).kind,(fH dss).worth,at_])->
 (∀ds∈dss,dA ds)->Uq.length+dss.length<=99->D.drop p=aC (dR dss)++([32]++(t.bytes++Us))->
 (∀I2 T' UH at_ x4 x5 x6 x7 x8,xi σ0 UH c N D (p+(aC (dR dss)).length+1+t.bytes.length) FR f Nf I (items++[.ref I2]) (done++[(⟨a,s,.ref I2⟩,.arr (Uq++dss))])->UH T'=some (.tup [.str t.kind,t.worth,at_])->aX (aq) au (k+4) Q n (BY c T' FR x4 x5 x6 x7 x8) UH)->
 aX (aq) au (k+4) Q ((dR dss).length+1+n) (BY c T FR x4 x5 x6 x7 x8) σ:=by
 intro dss;induction dss with
 | nil=>
  intro Uq σ1 σ p T at_ x4 x5 x6 x7 x8 h hN hT hg hl2 hd hq;rw[show(dR []).length+1+n=n+1 by change 0+1+n=_;lia];show B2 W h hT hN ho hl t ht hd fun T' UH x4 x5 x6 x7 x8 H hT'=>?_;have:=hq I2 T' UH (.int (p+1:Nat)) x4 x5 x6 x7 x8;rw[Bo] at this;show this H hT'
 | cons ds r ih=>
  intro Uq σ1 σ p T at_ x4 x5 x6 x7 x8 h hN hT hg hl2 hd hq;have e:(dR (ds::r))=fH r::dR r:=rfl;rw[e,bG] at hd;rw[e,cI] at hq;rw[e,show(fH r::dR r).length+1+n=((dR r).length+1+n)+1 by simp;lia];rw[fF] at hl2;show FU W h hT (by rw[hd];show FV fun x hx=>hg x (du _ hx)) zo (fH r) ?_ hd fun T' UH x4 x5 x6 x7 x8 H hT'=>?_
  . show yZ (fun x hx=>hg x (du _ hx)) _
  . show ih (Uq++[ds]) _ UH _ T' _ x4 x5 x6 x7 x8 H (hN.set h.d.C.n (fun _=>nofun) (fun e=>by cases e)) hT' (fun x hx=>hg x (du _ hx)) zu ?_ ?_
    . have:=ac (ac hd);show this
    . intro I2 T' UH at_ x4 x5 x6 x7 x8 H2 hT2;rw[u9] at H2;show hq I2 T' UH at_ x4 x5 x6 x7 x8 ?_ hT2;rw[show p+(1+(fH r).bytes.length+(aC (dR r)).length)+1+t.bytes.length=p+1+(fH r).bytes.length+(aC (dR r)).length+1+t.bytes.length by lia];show H2
theorem EM {l:List cU} (h:∀y∈l,bx y.1/\y.2.good) {R:LU}:(dh l).ok (aC (cB l)++R):=by
 cases l with
 | nil=>show trivial
 | cons y l=>
  obtain⟨r,x⟩:=y;have g:=(h (r,x) bJ).1;cases x<;>show EL g
theorem Hy {l:List cU} {x:LU}:oB ([32]++((dh l).bytes++x)):=by
 cases l with
 | nil=>show DM zd zd zd
 | cons y l=>show DM zd zd zd
theorem Hz {x y:LU} (h:y=x) (h2:oB x):oB y:=h▸h2
theorem wg {σ:AS} {a:Addr} {s:Str} {q p:Nat} (h:bv σ a s) (C:cV σ c N D p):bv (σ.set N (bb D q)) a s:=h.set C.n (fun _=>nofun) (fun e=>by cases e)
theorem FW (l:List (NV×PV)) (y:NV×PV):fB (l.map (·.1))++[.ref y.1.a]++[y.1.v]=fB ((l++[y]).map (·.1)):=by
 rw[pj,ma,u9];rfl
theorem QD (x:PV):(∃ds,x= .int ds)\/(∃r,x= .name r)\/∃dss,x= .arr dss:=by
 cases x with
 | int ds=>show .inl ⟨ds,rfl⟩
 | name r=>show .inr (.inl ⟨r,rfl⟩)
 | arr dss=>show .inr (.inr ⟨dss,rfl⟩)
theorem FX (W:WW) {Q:ax} {R:LU}:∀(Uu:List cU) (σ:AS) (p:Nat) (done:List (NV×PV)) (T:Addr) (at_:AV) (x4 x5 x6 x7 x8:Option AV),
 xi σ0 σ c N D p FR f Nf I (fB (done.map (·.1))) done->σ T=some (.tup [.str (dh Uu).kind,(dh Uu).worth,at_])->(∀y∈Uu,bx y.1/\y.2.good)->done.length+Uu.length<=49->((done.map (·.1.s))++Uu.map (bd ·.1)).Nodup->
 D.drop p=aC (cB Uu)++R->
 (∀l d ep UH done',done'.map (fun y=>(y.1.s,y.2))=done.map (fun y=>(y.1.s,y.2))++Uu.map (fun y=>(bd y.1,y.2))->σ0.But N UH->UH c=some (.inst 211 N)->UH N=some (bb D (p+(aC (cB Uu)).length))->UH d=some (.dict ep (cx (done'.map (·.1))))->fR UH done'->σ0 d=none->Q (.ret (.ref d)) l UH)->
 aX (aq) au (k+4) Q ((cB Uu).length+1) (BY c T FR x4 x5 x6 x7 x8) σ:=by
 intro Uu;induction Uu with
 | nil=>
  intro σ p done T at_ x4 x5 x6 x7 x8 h hT hg hl nd hd hq;show DK (n:=0) W h hT (by simpa using nd) fun l d ep UH h1 h2 h3 h4 h5 h6=>?_;show hq l d ep UH done zs h1 h2 h3 h4 h5 h6
 | cons y Uu ih=>
  obtain⟨r,x⟩:=y;intro σ p done T at_ x4 x5 x6 x7 x8 h hT hg hl nd hd hq;show aL (hg (r,x) bJ) fun g1 g2=>?_;have hg':∀y∈Uu,bx y.1/\y.2.good:=fun y hy=>hg y (du _ hy);have he:(fB (done.map (·.1))).length%2=0:=by rw[bF,Nat.mul_mod_right]
  have hl0:(fB (done.map (·.1))).length=2*done.length:=by rw[bF,a9]
  rw[fF] at hl;have hlen1:(fB (done.map (·.1))).length+1<=100:=zo;have hlen2:∀a:Addr,(fB (done.map fun y:NV×PV=>y.1)++[AV.ref a]).length+1<=100:=fun a=>by simp;lia
  have ho:∀a:Addr,(fB (done.map fun y:NV×PV=>y.1)++[AV.ref a]).length%2=1:=fun a=>by simp;lia
  have cont:∀(UH:AS) (q:Nat) (a:Addr) (v:AV) (T':Addr) (at_:AV) (x4 x5 x6 x7 x8:Option AV),q+(aC (cB Uu)).length=p+(aC (cB ((r,x)::Uu))).length->D.drop q=aC (cB Uu)++R->
   xi σ0 UH c N D q FR f Nf I (fB (done.map (·.1))++[.ref a]++[v]) (done++[(⟨a,bd r,v⟩,x)])->UH T'=some (.tup [.str (dh Uu).kind,(dh Uu).worth,at_])->
   aX (aq) au (k+4) Q ((cB Uu).length+1) (BY c T' FR x4 x5 x6 x7 x8) UH:=by
   intro UH q a v T' at_ x4 x5 x6 x7 x8 hp hdq H hT';rw[FW done (⟨a,bd r,v⟩,x)] at H;show ih UH q _ T' at_ x4 x5 x6 x7 x8 H hT' hg' zu (by simpa using nd) hdq fun l d ep UH done' h0 h1 h2 h3 h4 h5 h6=>?_;rw[hp] at h3;show hq l d ep UH done' (by rw[h0];simp) h1 h2 h3 h4 h5 h6
  rcases QD x with ⟨ds,hx⟩ | ⟨r2,hx⟩ | ⟨dss,hx⟩
  . have g2:(PV.int ds).good:=hx▸g2;have e:cB ((r,x)::Uu)= .int ds::dh Uu::cB Uu:=by rw[hx];rfl
    rw[e,bG,bG] at hd;rw[e,show(Tk.int ds::dh Uu::cB Uu).length+1=((cB Uu).length+1+1)+1 by simp];show we W h hT he hlen1 (.int ds) (Hv g2) hd fun a T1 σ1 y4 y5 y6 y7 y8 H1 N1 hT1=>?_;have hd1:=ac (ac hd);show BZ (x:= .int ds) W H1 hT1 (by change(("int":Str)=="sign")=false;decide) (ho a) (hlen2 a) N1 (dh Uu) (EM hg') hd1 (fun σ2 Q' S hv=>?_) fun v T2 σ2 z4 z5 z6 z7 z8 H2 hT2=>?_
    . show tO W (H1.C.sub S) (S _ _ hT1) (Hz hd1 Hy) (hv _ _ AS.Sub.rfl rfl)
    . show cont σ2 _ a v T2 _ z4 z5 z6 z7 z8 ?_ (ac (ac hd1)) (by rw[hx];show H2) hT2;rw[e,cI,cI];simp only [Tk.bytes,fF,List.length_nil];lia
  . have g2:(PV.name r2).good:=hx▸g2;have e:cB ((r,x)::Uu)= .name r2::dh Uu::cB Uu:=by rw[hx];rfl
    rw[e,bG,bG] at hd;rw[e,show(Tk.name r2::dh Uu::cB Uu).length+1=((cB Uu).length+1+1)+1 by simp];show we W h hT he hlen1 (.name r2) (EL g2) hd fun a T1 σ1 y4 y5 y6 y7 y8 H1 N1 hT1=>?_;have hd1:=ac (ac hd);show BZ (x:= .name r2) W H1 hT1 (by change(("name":Str)=="sign")=false;decide) (ho a) (hlen2 a) N1 (dh Uu) (EM hg') hd1 (fun σ2 Q' S hv=>?_) fun v T2 σ2 z4 z5 z6 z7 z8 H2 hT2=>?_
    . show q0 W (S _ _ hT1) fun b M hb hM hne=>hv _ _ (AS.Sub.mk hb hM hne) ⟨b,rfl,M,At.new hne⟩
    . show cont σ2 _ a v T2 _ z4 z5 z6 z7 z8 ?_ (ac (ac hd1)) (by rw[hx];show H2) hT2;rw[e,cI,cI];simp only [Tk.bytes,fF,List.length_nil];lia
  . have g2:(PV.arr dss).good:=hx▸g2;have e:cB ((r,x)::Uu)= .arr::fH dss::(dR dss++dh Uu::cB Uu):=by rw[hx];rfl
    rw[e,bG,bG,oO,u9,bG] at hd;rw[e,show(Tk.arr::fH dss::(dR dss++dh Uu::cB Uu)).length+1=((dR dss).length+1+((cB Uu).length+1)+1)+1 by simp;lia];show we W h hT he hlen1 .arr trivial hd fun a T1 σ1 y4 y5 y6 y7 y8 H1 N1 hT1=>?_;have hd1:=ac (ac hd);show DL W H1 (ho a) hT1 (fH dss) (yZ g2.2 _) hd1 fun f2 N2 I2 T2 σ2 σ3 z4 z5 z6 z7 z8 S2 A2 hT2=>?_;have hd2:=ac (ac hd1);show Hx W (ho a) (hlen2 a) (dh Uu) (EM hg') dss [] σ2 σ3 _ T2 _ z4 z5 z6 z7 z8 A2 ((wg N1 H1.C).sub S2) hT2 g2.2 (by have:=g2.1;simp;lia) hd2 fun I3 T3 σ4 at3 w4 w5 w6 w7 w8 H3 hT3=>?_;show cont σ4 _ a (.ref I3) T3 at3 w4 w5 w6 w7 w8 ?_ ?_ (by rw[hx];show H3) hT3
    . rw[e,cI,cI,oO,j7,cI];simp only [Tk.bytes,fF,List.length_nil];lia
    . show ac (ac (ac hd2))
end
noncomputable section
open MeetsSeq
structure QE (σ UH:AS) (c N:Addr) (D:LU) (q:Nat) (d:Addr) (Uu:List cU):Prop where
 but:σ.But N UH
 c:UH c=some (.inst 211 N)
 n:UH N=some (bb D q)
 dict:∃ep done,UH d=some (.dict ep (cx (done.map fun y:NV×PV=>y.1)))/\fR UH done/\done.map (fun y=>(y.1.s,y.2))=Uu.map (fun y=>(bd y.1,y.2))
 new:σ d=none
theorem xR (W:WW) {c N T:Addr} {D R:LU} {p p0:Nat} {at_:AV} {Uu:List cU} {σ0:AS} (C:cV σ c N D p) (hB:σ0.But N σ) (h0:σ0 N=some (bb D p0)) (hT:σ T=some (.tup [.str "sign",.bytes [60,60],at_]))
 (hd:D.drop p=aC (dh Uu::cB Uu)++R) (hg:∀y∈Uu,bx y.1/\y.2.good) (hl:Uu.length<=49) (nd:(Uu.map (bd ·.1)).Nodup)
 (hq:∀d UH,QE σ0 UH c N D (p+(aC (dh Uu::cB Uu)).length) d Uu->Q (.ref d) UH):aa (k+5) (.ref 686) [.ref c,.ref T] σ Q X:=by
 show(af W jq (xL W) rfl zd ?_).call;show⟨zl,?_⟩;intro FR hFR;have S:=AS.Sub.set (o:= .list []) hFR;have h0FR:σ0 FR=none:=by
  cases e:σ0 FR with
  | none=>rfl
  | some o=>
   by_cases z:FR=N
   . rw[z,C.n] at hFR;cases hFR
   . rw[hB FR o z e] at hFR;cases hFR
 rw[bG] at hd;show⟨_,FT (n:=(cB Uu).length+1) W (C.sub S) AS.UJ (hB.sub S) h0FR ⟨_,h0⟩ (S _ _ hT) (dh Uu) (EM hg) hd fun f Nf I T' UH x4 x5 x6 x7 x8 H hT'=>?_⟩;show FX W Uu UH _ [] T' _ x4 x5 x6 x7 x8 H hT' hg (by simpa using hl) (by simpa using nd) (ac (ac hd)) fun l d ep UI done' e0 e1 e2 e3 e4 e5 e6=>?_;show hq d UI ⟨e1,e2,?_,⟨ep,done',e4,e5,by simpa using e0⟩,e6⟩;rw[e3,cI]
 congr 2
 lia
theorem oP (W:WW) {c N:Addr} {D R ws:LU} {p:Nat} {Uu:List cU} (C:cV σ c N D p) (hw:∀c∈ws,qm c=true)
 (hd:D.drop p=ws++([60,60]++(aC (dh Uu::cB Uu)++R))) (hg:∀y∈Uu,bx y.1/\y.2.good) (hl:Uu.length<=49) (nd:(Uu.map (bd ·.1)).Nodup)
 (hq:∀d UH,QE σ UH c N D (p+ws.length+2+(aC (dh Uu::cB Uu)).length) d Uu->Q (.ref d) UH):aa (k+6) (.ref 693) [.ref c] σ Q X:=by
 show(af W oH (xM W) rfl zd ?_).call;show bC W C .opn hw trivial hd fun T hT=>?_;have lt:p+ws.length+2<=D.length:=by
  have:=aB hd C.le;show aB (ac hd) this
 have S:=AS.Sub.set (o:= .tup [.str Tk.opn.kind,Tk.opn.worth,.int (p+ws.length:Nat)]) hT;show xR W ((C.move lt).sub S) (AS.But.of_set.sub S) C.n AS.UJ (ac (ac hd)) hg hl nd fun d UH r=>?_;show hq d UH r
theorem HA (W:WW) {c N R:Addr} {D Us:LU} {m:Int} {cn:AV} {Q:ax}:∀(ds:LU) (l:List AV) (p n:Nat) (σ:AS) (x:Option AV),l.length=ds.length->(∀c∈ds,gw c=true)->cV σ c N D p->D.drop p=ds++Us->σ R=some (.rng 0 m 1)->
 (∀x,Q .next [some (.ref c),some cn,some (.int (ay n ds)),x] (σ.set N (bb D (p+ds.length))))->bU (lf) lh (fun σ=>σ R=some (.rng 0 m 1)) (k+2) Q l [some (.ref c),some cn,some (.int n),x] σ:=by
 intro ds;induction ds with
 | nil=>
  intro l p n σ x hl hw C hd hR h;rw[List.length_eq_zero_iff.mp hl];have:=h x;rw[List.length_nil,Nat.add_zero,AS.set_id C.n] at this;show this
 | cons d ds ih=>
  intro l p n σ x hl hw C hd hR h;obtain⟨v,l,rfl⟩:∃v l',l=v::l':=by
   cases l with
   | nil=>cases hl
   | cons v l=>show⟨v,l,rfl⟩
  show ae (bI hd) fun lt e1 e2=>?_;have hd1:gw d=true:=hw d bJ;show aL (qF hd1) fun d1 d2=>?_;have C':=C;obtain⟨q1,q2,q3,q4,q5⟩:=C;show ad q1 q2 (f:=138) zk ?_;show eo W C' ?_;show cD W ?_;rw[cF hd,iP,hd1];left;show⟨IntMulOk.of_left zd,?_⟩;show ad q1 q2 (f:=145) zk ?_;show sB W C' lt ?_;rw[e1];have en:((10:Int)*(n:Int)+(d.toNat:Int)-48)=((n*10+(d.toNat-48):Nat):Int):=zo;show⟨aA hR q2 nofun,?_⟩;rw[en];show ih l (p+1) _ _ _ (by simpa using hl) (fun c hc=>hw c (du _ hc)) (C'.move lt) e2 (aA hR q2 nofun) fun x=>?_;rw[AS.UL,show p+1+ds.length=p+(d::ds).length by simp;lia];show h x
theorem ml (W:WW) {c N:Addr} {D ds Us:LU} {p:Nat} (C:cV σ c N D p) (hw:∀c∈ds,gw c=true) (hl:ds.length<=100) {m:Int} (hm:m=ds.length) (hd:D.drop p=ds++Us) (hq:Q (.int (ay 0 ds)) (σ.set N (bb D (p+ds.length)))):aa (k+3) (.ref 772) [.ref c,.int m] σ Q X:=by
 rw[hm];show aa.forget ?_;show(af W mf (wb W) rfl zd ?_).call;show jL fun R hR=>?_;have S:=AS.Sub.set (o:= .rng 0 ds.length 1) hR;show eQ.of (dM (a:=((0:Nat):Int)) (BR zo zo) (by rw[tP];lia)) AS.UJ ?_;show HA W ds _ p 0 _ none (by rw[q9];simp) hw (C.sub S) hd AS.UJ fun x=>?_;show⟨_,S.up,hq⟩
theorem rt (W:WW) {c N:Addr} {D Us:LU} {p:Nat} (C:cV σ c N D p) (hd:D.drop p=32::Us) (hq:Q .none (σ.set N (bb D (p+1)))):aa (k+2) (.ref 779) [.ref c] σ Q X:=by
 have C':=C;obtain⟨q1,q2,q3,q4,q5⟩:=C;show ae (bI hd) fun lt e1 e2=>?_;show(af W rg (An W) rfl zd ?_).call;show ad q1 q2 (f:=138) zk ?_;show eo W C' ?_;rw[cF hd];left;show ad q1 q2 (f:=145) zk ?_;show sB W C' lt ?_;show hq
theorem sP (W:WW) {c N:Addr} {D Us:LU} {p:Nat} (C:cV σ c N D p) (hd:D.drop p=[32,10]++Us) (hq:Q .none (σ.set N (bb D (p+2)))):aa (k+3) (.ref 786) [.ref c] σ Q X:=by
 show aa.forget ?_;show(af W jR (sO W) rfl zd ?_).call;show⟨zl,?_⟩;intro U hU;have S:=AS.Sub.set (o:= .tup [.bytes [32,13],.bytes [32,10],.bytes [13,10]]) hU;have C1:=C.sub S;show eQ.of G7 (.inl AS.UJ) ?_;show ad C1.i C1.n (f:=159) zk ?_;show lW W C1 zd (fun h=>?_) (fun h=>?_)
 . rw[hd] at h;cases h
 left;show⟨.inl AS.UJ,?_⟩;show ad C1.i C1.n (f:=159) zk ?_;show lW W C1 zd (fun h=>?_) (fun h=>?_)
 . left;show⟨_,S.up,hq⟩
 . rw[hd] at h;cases h
noncomputable abbrev DN (way:Str) (one two:Nat):List (Attr×AV):=[(.way,.str way),(.one,.int one),(.two,.int two)]
theorem EN (W:WW) {way:Str} {one two:Nat} (hq:∀a N,σ a=none->σ N=none->a≠N->Q (.ref a) (σ.mk a N 761 (DN way one two))):aa (k+2) (.ref 761) [.str way,.int one,.int two] σ Q X:=by
 show iM W (f:=751) zk zk zk fun a N h1 h2 h3=>?_;show af W rc (Al W) rfl zd ?_;right;simp only [AS.mk_eq h3];show⟨trivial,hq a N h1 h2 h3⟩
noncomputable abbrev vd (ds es:LU) (used:Bool):LU:=ds++([32]++(es++([32]++([if used then 110 else 102]++[32,10]))))
noncomputable def B5 (b:Bool):Str:=if b then "used" else "free"
theorem Au (W:WW) {c N:Addr} {D ds es Us:LU} {b:Bool} {p:Nat} (C:cV σ c N D p) (h1:∀c∈ds,gw c=true) (l1:ds.length=10) (h2:∀c∈es,gw c=true) (l2:es.length=5) (hz:ay 0 es<=65535) (hd:D.drop p=vd ds es b++Us)
 (hq:∀a M,(σ.set N (bb D (p+20))) a=none->(σ.set N (bb D (p+20))) M=none->a≠M->Q (.ref a) ((σ.set N (bb D (p+20))).mk a M 761 (DN (B5 b) (ay 0 ds) (ay 0 es)))):aa (k+4) (.ref 793) [.ref c] σ Q X:=by
 simp only [u9] at hd;have C1:=C.step hd;have d1:=ac hd;have C2:=C1.step d1;have d2:=ac d1;have C3:=C2.step d2;have d3:=ac d2;have C4:=C3.step d3;have d4:=ac d3;have C5:=C4.step d4;have d5:=ac d4;show(af W rk (Ao W) rfl zd ?_).call;show ml W C h1 zo (by rw[l1];rfl) hd ?_;show rt W C1 d1 ?_;show AttrJ.of C2.i C2.n rfl zk rfl ?_;show ml W C2 h2 zo (by rw[l2];rfl) d2 ?_;show Br.neg (uw zo) ?_;show rt W C3 d3 ?_;show ad C4.i C4.n (f:=138) zk ?_;show eo W C4 ?_;rw[cF d4];show ae (bI d4) fun lt e1 e2=>?_;have fin:∀P:aG,(P (.int (D[p+ds.length+[32].length+es.length+[32].length]).toNat) (((((σ.set N (bb D (p+ds.length))).set N (bb D (p+ds.length+[32].length))).set N (bb D (p+ds.length+[32].length+es.length))).set N (bb D (p+ds.length+[32].length+es.length+[32].length))).set N (bb D (p+ds.length+[32].length+es.length+[32].length+1))))->aa (k+3) (.ref 145) [.ref c] ((((σ.set N (bb D (p+ds.length))).set N (bb D (p+ds.length+[32].length))).set N (bb D (p+ds.length+[32].length+es.length))).set N (bb D (p+ds.length+[32].length+es.length+[32].length))) P fun _ _=>False:=fun P hp=>sB W C4 lt hp;have hp:p+ds.length+[32].length+es.length+[32].length+[if b=true then(110:UInt8) else 102].length+2=p+20:=by simp;lia
 rw[<-hp] at hq;cases b<;>
 . left;show ad C4.i C4.n (f:=145) zk ?_;show fin _ ?_;show sP W C5 d5 ?_;left;show EN W ?_;rw[AS.UL,AS.UL,AS.UL,AS.UL,AS.UL];show hq
theorem gX (W:WW) {c N:Addr} {D ds Us:LU} {p:Nat} (C:cV σ c N D p) (hw:∀c∈ds,gw c=true) (h0:ds≠[]) (h20:ds.length<=20) (hr:Q0 Us) (hd:D.drop p=ds++Us) (hq:Q (.int (ay 0 ds)) (σ.set N (bb D (p+ds.length)))):aa (k+4) (.ref 800) [.ref c] σ Q X:=by
 have C':=C;obtain⟨q1,q2,q3,q4,q5⟩:=C;show(af W ro (Ap W) rfl zd ?_).call;right;show vy q1 q2 (f:=194) zk zk ?_;show BG W C' hw h0 h20 hr hd ?_;left;show hq
structure aY where
 n:Nat
 way:Str
 one:Nat
 two:Nat
structure ER where
 a:Addr
 r:aY
def cZ (σ:AS) (x:ER):Prop:=∃N,At σ x.a N 761 (DN x.r.way x.r.one x.r.two)
noncomputable abbrev ag (l:List ER):List (AK×AV):=l.map fun x=>(.i x.r.n,.ref x.a)
def di (σ:AS) (E:Addr) (rows:List aY):Prop:=∃ep l,σ E=some (.dict ep (ag l))/\(∀x∈l,cZ σ x)/\l.map (·.r)=rows
def dj (σ:AS) (d:Addr) (kv:List (Str×PV)):Prop:=∃ep done,σ d=some (.dict ep (cx (done.map fun y:NV×PV=>y.1)))/\fR σ done/\done.map (fun y=>(y.1.s,y.2))=kv
theorem AS.But.keep {N a:Addr} {σ UH:AS} {o o':AO} (B:σ.But N UH) (hN:σ N=some o') (h:σ a=some o) (ne:o≠o'):UH a=some o:=B a o (fun e=>ne (by rw[e,hN] at h;show(ql h).symm)) h
theorem cZ.but {N:Addr} {σ UH:AS} {D:LU} {p:Nat} {x:ER} (h:cZ σ x) (B:σ.But N UH) (hN:σ N=some (bb D p)):cZ UH x:=by
 obtain⟨M,i,n⟩:=h;show⟨M,B.keep hN i nofun,B.keep hN n (fun e=>by cases e)⟩
theorem cZ.sub {σ UH:AS} {x:ER} (h:cZ σ x) (S:σ.Sub UH):cZ UH x:=by
 obtain⟨M,i,n⟩:=h;show⟨M,S _ _ i,S _ _ n⟩
theorem di.but {N E:Addr} {σ UH:AS} {D:LU} {p:Nat} {rows:List aY} (h:di σ E rows) (B:σ.But N UH) (hN:σ N=some (bb D p)):di UH E rows:=by
 show aH h fun ep l h1 h2 h3=>?_;show⟨ep,l,B.keep hN h1 nofun,fun x hx=>(h2 x hx).but B hN,h3⟩
theorem di.sub {E:Addr} {σ UH:AS} {rows:List aY} (h:di σ E rows) (S:σ.Sub UH):di UH E rows:=by
 show aH h fun ep l h1 h2 h3=>?_;show⟨ep,l,S _ _ h1,fun x hx=>(h2 x hx).sub S,h3⟩
theorem bv.but {N a:Addr} {σ UH:AS} {D:LU} {p:Nat} {s:Str} (h:bv σ a s) (B:σ.But N UH) (hN:σ N=some (bb D p)):bv UH a s:=by
 obtain⟨M,i,n⟩:=h;show⟨M,B.keep hN i nofun,B.keep hN n (fun e=>by cases e)⟩
theorem gL.but {N:Addr} {σ UH:AS} {D:LU} {p:Nat} {v:AV} {x:PV} (h:gL σ v x) (B:σ.But N UH) (hN:σ N=some (bb D p)):gL UH v x:=by
 cases x with
 | int ds=>show h
 | name r=>obtain⟨a,e,h⟩:=h;show⟨a,e,h.but B hN⟩
 | arr l=>obtain⟨a,e,h⟩:=h;show⟨a,e,B.keep hN h nofun⟩
theorem dj.but {N d:Addr} {σ UH:AS} {D:LU} {p:Nat} {kv:List (Str×PV)} (h:dj σ d kv) (B:σ.But N UH) (hN:σ N=some (bb D p)):dj UH d kv:=by
 show aH h fun ep l h1 h2 h3=>?_;show⟨ep,l,B.keep hN h1 nofun,fun x hx=>⟨(h2 x hx).1.but B hN,(h2 x hx).2.but B hN⟩,h3⟩
theorem dj.sub {d:Addr} {σ UH:AS} {kv:List (Str×PV)} (h:dj σ d kv) (S:σ.Sub UH):dj UH d kv:=by
 show aH h fun ep l h1 h2 h3=>?_;show⟨ep,l,S _ _ h1,h2.sub S,h3⟩
structure gY where
 nd:LU
 ds:LU
 es:LU
 b:Bool
noncomputable abbrev gY.row (x:gY):aY:=⟨ay 0 x.nd,B5 x.b,ay 0 x.ds,ay 0 x.es⟩
noncomputable abbrev gY.text (x:gY):LU:=x.nd++([32]++([49]++([10]++vd x.ds x.es x.b)))
structure gY.good (x:gY):Prop where
 n1:∀c∈x.nd,gw c=true
 n2:x.nd≠[]
 n3:x.nd.length<=20
 d1:∀c∈x.ds,gw c=true
 d2:x.ds.length=10
 e1:∀c∈x.es,gw c=true
 e2:x.es.length=5
 e3:ay 0 x.es<=65535
 z:ay 0 x.nd<=1000000
theorem gY.len (x:gY) (g:x.good):x.text.length=x.nd.length+23:=by
 have:=g.d2;have:=g.e2;simp;lia
theorem sQ {xs:List (AK×AV)} {x:AK} (h:∀p∈xs,p.1≠x):bl xs x=none:=by
 unfold bl;rw[List.find?_eq_none.mpr fun p hp=>by simpa using h p hp];rfl
theorem AS.Sub.none {σ UH:AS} (S:σ.Sub UH) {a:Addr} (h:UH a=none):σ a=none:=by
 cases e:σ a with
 | none=>rfl
 | some o=>rw[S _ _ e] at h;cases h
theorem ru (W:WW) {c N E:Addr} {D Us:LU} {p ep:Nat} {xs:List (AK×AV)} {x:gY} (C:cV σ c N D p) (g:x.good) (hE:σ E=some (.dict ep xs)) (hx:∀p∈xs,p.1≠.i (ay 0 x.nd:Nat)) (hl:xs.length<=1000) (hd:D.drop p=x.text++Us)
 (hq:∀a M ep',(σ.set N (bb D (p+x.text.length))) a=none->(σ.set N (bb D (p+x.text.length))) M=none->a≠M->Q .none (((σ.set N (bb D (p+x.text.length))).mk a M 761 (DN (B5 x.b) (ay 0 x.ds) (ay 0 x.es))).set E (.dict ep' (xs++[(.i (ay 0 x.nd:Nat),.ref a)])))):
 aa (k+5) (.ref 807) [.ref c,.ref E] σ Q X:=by
 have hd':=hd;rw[show x.text=x.nd++([32]++([49]++([10]++vd x.ds x.es x.b))) from rfl] at hd;simp only [u9] at hd;have C1:=C.step hd;have d1:=ac hd;have C2:=C1.step d1;have d2:=ac d1;have C3:=C2.step d2;have d3:=ac d2;have C4:=C3.step d3;have d4:=ac d3;obtain⟨d,r,hds⟩:∃d r,x.ds=d::r:=IN fun e=>by have:=g.d2;rw[e] at this;cases this
 have fd:gw d=true:=g.d1 d (by rw[hds];show bJ);show aa.forget ?_;show(af W fi (iU W) rfl zd ?_).call;show gX W C g.n1 g.n2 g.n3 (by change gw 32=false;decide) hd ?_;show ad C1.i C1.n (f:=166) zk ?_;show aE W C1 fk (by show⟨zd,zd⟩) d1 ?_;show gX W (ds:=[49]) C2 zd nofun zd (by change gw 10=false;decide) d2 ?_;show ad C3.i C3.n (f:=166) zk ?_;show aE W C3 zd (by rw[hds];show rr fd) d3 ?_;show sA fun R hR=>?_;have S:=AS.Sub.set (o:= .rng (ay 0 x.nd) ((ay 0 x.nd:Int)+(ay 0 [49]:Nat)) 1) hR;rw[show((ay 0 x.nd:Int)+(ay 0 [49]:Nat))=((ay 0 x.nd+1:Nat):Int) from rfl] at S⊢;have C5:=C4.sub S;have Eσ:=S _ _ (aA (x:=bb D (p+x.nd.length+[32].length+[49].length+[10].length)) (aA (x:=bb D (p+x.nd.length+[32].length+[49].length)) (aA (x:=bb D (p+x.nd.length+[32].length)) (aA (x:=bb D (p+x.nd.length)) hE C.n nofun) C1.n nofun) C2.n nofun) C3.n nofun);show eQ.of (dM (BR (by have:=g.z;lia) (by have:=g.z;lia)) (by rw[tP];lia)) AS.UJ ?_;rw[q9,show ay 0 x.nd+1-ay 0 x.nd=1 by lia];show qs (x:= .i (ay 0 x.nd:Nat)) Eσ ?_;rw[sQ hx];left;show ad C5.i C5.n (f:=130) zk ?_;show Fx W C5 ?_;rw[hds] at d4;show Br.neg (uw (by have:=(bI d4).1;lia)) ?_;rw[<-hds] at d4;show Au W C5 (ds:=x.ds) (es:=x.es) (b:=x.b) (Us:=Us) g.d1 g.d2 g.e1 g.e2 g.e3 (by simp only [u9];show d4) fun a M ha hM hne=>?_;have pE:p+x.nd.length+([32]:LU).length+([49]:LU).length+([10]:LU).length+20=p+x.text.length:=by rw[x.len g];simp;lia
 rw[pE] at ha hM⊢;have S2:=S.up (a:=N) (o:=bb D (p+x.text.length));rw[AS.UL,AS.UL,AS.UL,AS.UL] at S2;have S3:=fun m=>S2.trans (AS.Sub.mk (C:=761) (m:=m) ha hM hne);show bM (x:= .i (ay 0 x.nd:Nat)) (S3 _ _ _ (aA hE C.n nofun)) zo fun ep'=>?_;rw[fe hx];have hR2:R≠E:=aR hR (aA (x:=bb D (p+x.nd.length+[32].length+[49].length+[10].length)) (aA (x:=bb D (p+x.nd.length+[32].length+[49].length)) (aA (x:=bb D (p+x.nd.length+[32].length)) (aA (x:=bb D (p+x.nd.length)) hE C.n nofun) C1.n nofun) C2.n nofun) C3.n nofun);have hRN:R≠N:=aR hR C4.n;show⟨(AS.UK hR2).trans ((AS.Sub.mk ha hM hne) _ _ ((AS.UK hRN).trans AS.UJ)),?_⟩;have n1:=fun z hz=>S2.none (a:=z) hz;show⟨_,(S2.up.up).up,hq a M ep' (n1 a ha) (n1 M hM) hne⟩
structure Tb (σ0 σ:AS) (c N:Addr) (D:LU) (p:Nat) (E:Addr) (l:List ER):Prop where
 C:cV σ c N D p
 e:∃ep,σ E=some (.dict ep (ag l))
 r:∀x∈l,cZ σ x
 ext:σ0.But N σ
 e0:σ0 E=none
noncomputable def dk:List gY->LU
 | []=>[]
 | x::r=>x.text++dk r
theorem cZ.set {σ:AS} {x:ER} {b:Addr} {o y:AO} (h:cZ σ x) (hb:σ b=some o) (h1:∀N,AO.inst 761 N≠o) (h2:∀w a b,AO.ns (DN w a b)≠o):cZ (σ.set b y) x:=by
 obtain⟨M,i,n⟩:=h;show⟨M,aA i hb (h1 M),aA n hb (h2 _ _ _)⟩
theorem Tb.sub {σ0 σ UH:AS} {c N E:Addr} {D:LU} {p:Nat} {l:List ER} (h:Tb σ0 σ c N D p E l) (S:σ.Sub UH):Tb σ0 UH c N D p E l:=by
 show aw h.e fun ep e=>?_;show⟨h.C.sub S,⟨ep,S _ _ e⟩,fun x hx=>(h.r x hx).sub S,h.ext.sub S,h.e0⟩
theorem Tb.move {σ0 σ:AS} {c N E:Addr} {D:LU} {p q:Nat} {l:List ER} (h:Tb σ0 σ c N D p E l) (hq:q<=D.length):Tb σ0 (σ.set N (bb D q)) c N D q E l:=by
 show aw h.e fun ep e=>?_;show⟨h.C.move hq,⟨ep,aA e h.C.n nofun⟩,fun x hx=>(h.r x hx).set h.C.n (fun _=>nofun) (fun _ _ _ e=>by cases e),h.ext.set (.inl rfl),h.e0⟩
theorem Tb.put {σ0 σ:AS} {c N E:Addr} {D:LU} {p ep:Nat} {l:List ER} {x:ER} (h:Tb σ0 σ c N D p E l) (hx:cZ σ x):Tb σ0 (σ.set E (.dict ep (ag l++[(.i x.r.n,.ref x.a)]))) c N D p E (l++[x]):=by
 show aw h.e fun ep e=>?_;show⟨h.C.keep e nofun nofun,⟨_,by rw[AS.UJ];simp;rfl⟩,fun y hy=>?_,h.ext.set (.inr h.e0),h.e0⟩;rcases eL.mp hy with hy | hy
 . show(h.r y hy).set e (fun _=>nofun) (fun _ _ _=>nofun)
 . rw[dK] at hy;rw[hy];show hx.set e (fun _=>nofun) (fun _ _ _=>nofun)
theorem HB {x y:LU} (h:y=x) (h2:sG x):sG y:=h▸h2
theorem oQ (W:WW) {c N:Addr} {D:LU} {p:Nat} (C:cV σ c N D p) (hr:sG (D.drop p)) (hq:Q .none σ):aa (k+1) (.ref 166) [.ref c] σ Q X:=by
 show aE W (ws:=[]) C aF hr rfl ?_;rw[List.length_nil,Nat.add_zero,AS.set_id C.n];show hq
theorem Av (W:WW) {σ0:AS} {c N E:Addr} {D Us:LU} {Q:ax} (h1:Q0 Us) (h2:sG Us) (h3:Us≠[]):∀(ts:List gY) (σ:AS) (p:Nat) (l:List ER),Tb σ0 σ c N D p E l->(∀x∈ts,x.good)->(l.map (·.r.n)++ts.map (ay 0 ·.nd)).Nodup->l.length+ts.length<=900->
 D.drop p=dk ts++Us->(∀UH l',Tb σ0 UH c N D (p+(dk ts).length) E l'->l'.map (·.r)=l.map (·.r)++ts.map (·.row)->Q .next [some (.ref c),some (.ref E)] UH)->
 aX (li) lj (k+5) Q (ts.length+1) [some (.ref c),some (.ref E)] σ:=by
 intro ts;induction ts with
 | nil=>
  intro σ p l h hg nd hl hd hq;show sn (IN h3) fun d r hr2=>?_;subst hr2;show ad h.C.i h.C.n (f:=138) zk ?_;show eo W h.C ?_;show cD W ?_;rw[cF hd,iP,show gw d=false from h1];left;show hq σ l h zs
 | cons x ts ih=>
  intro σ p l h hg nd hl hd hq;have g:=hg x bJ;rw[show dk (x::ts)=x.text++dk ts from rfl,u9] at hd;rw[fF] at hl;show sn (IN g.n2) fun d r hnd=>?_;have fd:gw d=true:=g.n1 d (by rw[hnd];show bJ);have hd0:D.drop p=d::(r++([32]++([49]++([10]++vd x.ds x.es x.b)))++(dk ts++Us)):=by rw[hd,gY.text,hnd];rfl
  show aw h.e fun ep hE=>?_;show ad h.C.i h.C.n (f:=138) zk ?_;show eo W h.C ?_;show cD W ?_;rw[cF hd0,iP,fd];left;have nd1:∀y∈l,y.r.n≠ay 0 x.nd:=fun y hy e=>by
   rw[dI,Ey] at nd;show nd.2.2 y.r.n (bp.mpr ⟨y,hy,rfl⟩) (ay 0 x.nd) bJ e
  show ru W h.C g hE (fun q hq e=>?_) zm hd fun a M ep' ha hM hne=>?_
  . show ae (bp.mp hq) fun y hy hr2=>?_;subst hr2;show nd1 y hy (by have:=AK.i.inj e;lia)
  have H2:=(h.move (aB hd h.C.le)).sub (AS.Sub.mk (C:=761) (m:=DN (B5 x.b) (ay 0 x.ds) (ay 0 x.es)) ha hM hne);have H3:=H2.put (ep:=ep') (x:=⟨a,x.row⟩) ⟨M,At.new hne⟩;have hd3:=ac hd;show ad H3.C.i H3.C.n (f:=166) zk ?_;show oQ W H3.C (HB hd3 ?_) ?_
  . cases ts with
    | nil=>show h2
    | cons y ts=>
     have g2:=hg y zs;show sn (IN g2.n2) fun d r hnd=>?_;have fd:gw d=true:=g2.n1 d (by rw[hnd];show bJ);change sG (y.nd++_++_++_);rw[hnd];show rr fd
  show⟨ih _ _ _ H3 (fun y hy=>hg y (du _ hy)) ?_ zu hd3 fun UH l' H4 e4=>?_⟩
  . have:(l++[(⟨a,x.row⟩:ER)]).map (·.r.n)=l.map (·.r.n)++[ay 0 x.nd]:=zs;rw[this,u9];show nd
  . show hq UH l' ?_ (by rw[e4];simp);rw[show p+(dk (x::ts)).length=p+x.text.length+(dk ts).length by change p+(x.text++dk ts).length=_;rw[j7];lia];show H4
theorem mn (W:WW) {c N:Addr} {D R ws:LU} {p:Nat} {Uu:List cU} (C:cV σ c N D p) (hw:∀c∈ws,qm c=true)
 (hd:D.drop p=ws++([60,60]++(aC (dh Uu::cB Uu)++R))) (hg:∀y∈Uu,bx y.1/\y.2.good) (hl:Uu.length<=49) (nd:(Uu.map (bd ·.1)).Nodup)
 (hq:∀d UH q,σ.But N UH->UH N=some (bb D q)->dj UH d (Uu.map fun y=>(bd y.1,y.2))->σ d=none->Q (.ref d) UH):aa (k+7) (.ref 814) [.ref c] σ Q X:=by
 show(af W mi (wc W) rfl zd ?_).call;show ad C.i C.n (f:=166) zk ?_;show aE W C hw (by show⟨zd,zd⟩) hd ?_;have C1:=C.step hd;show AttrJ.of C1.i C1.n rfl zk rfl ?_;show oP W (ws:=[]) C1 aF (ac hd) hg hl nd fun d UH r=>?_;show aH r.dict fun ep done h1 h2 h3=>?_;show cH W (fc h1) (b:=true) zk ?_;left;show hq d UH _ (AS.But.of_set.trans r.but) r.n ⟨ep,done,h1,h2,h3⟩ ((AS.UM r.new).2)
structure DO (σ:AS) (a b:AV) (P:Prop):Prop where
 run:∃p q,a= .ref p/\b= .ref q/\σ p=some (.list [])/\σ q=some (.list [])/\P
theorem DO.of {σ:AS} {p q:Addr} {P:Prop} (h1:σ p=some (.list [])) (h2:σ q=some (.list [])) (h:P):DO σ (.ref p) (.ref q) P:=⟨p,q,rfl,rfl,h1,h2,h⟩
noncomputable def EO (P:AS->Prop):List AV->AS->Prop
 | [a,b],σ=>DO σ a b (P σ)
 | _,_=>False
theorem DQ {P:AS->Prop} {vs:List AV} {σ:AS} (h:EO P vs σ):∃a b,vs=[a,b]/\DO σ a b (P σ):=by
 cases vs with
 | nil=>show h.elim
 | cons a r=>
  cases r with
  | nil=>show h.elim
  | cons b r=>
   cases r with
   | nil=>show⟨_,_,rfl,h⟩
   | cons _ _=>show h.elim
theorem MW {b n:Nat} (h:b<n):¬(b=n+4\/b=n+3\/b=n\/b=n+1):=zo
theorem B6 {vs:Array Value} (e:vs.toList.map er=[]):vs= #[]:=by
 obtain⟨l⟩:=vs;cases l with
 | nil=>rfl
 | cons _ _=>cases e
noncomputable def CS.forzip0 {p:Pos} (T:eF F) (f:CE F) (hf:f.e= .Name "zip" p) (hv:∀k l σ Q X,f.tr k l σ Q X=Q (.typ "zip") σ) (x y:CE F) (cp:Pos) (B:CB F) (pos:Pos):CS F where
 b:= .For T.e (.Call (.Name "zip" p) ([x,y].map (·.e)) [] cp) B.b [] pos
 tr:=fun k l σ Q X=>x.tr k l σ (fun a Uv=>y.tr k l Uv (fun b Uw=>DO Uw a b (Q .next l Uw)) X) X
 ok:=fun c k l σ s Q X R S h=>by
  show wpAny_For (wpAny_Call_NameR ?_) (gU rfl _);have z:=f.ok c k l σ s (fun v Uv=>v= .typ "zip"/\Uv=σ) X R S (by rw[hv];show⟨rfl,rfl⟩);rw[hf] at z;show dw z (fun fv UB hp=>j8 hp fun Uv Uz e1 e2=>?_) fun _ _ e=>e;subst e2;rw[eO e1,eh];show callWith_of (P:=fun h=>∃s,s.heap=h/\∃σ,St c l σ s/\bw Ω.w (er (.type "zip"))) (by rw[CE.plainArgs];rfl) (fun h hp=>ae hp fun s es hp=>ae hp fun σ S e=>es▸iK S e) ?_;show dw (CE.evalArgs_ok c k l X R (.type "zip") [x,y] Uv UB (EO fun Uw=>Q .next l Uw) Uz h) (fun a UC hp=>aL hp fun ek hp=>ae hp fun Uw UA UF=>⟨⟨UC,rfl,Uw,UA,trivial⟩,?_⟩) fun _ _ e=>e;rw[ek];show bQ (DQ UF) fun u v e3 J=>?_;show Ss J.run fun q r hr2 hr3 h1 h2 h3=>?_;subst hr2;subst hr3;show aH (GI e3) fun u' v' e4 hu hv'=>?_;rw[e4,ah hu,ah hv'];show aH (aZ UA.rs h1) fun vs m hl he _=>?_;show aH (aZ UA.rs h2) fun vs' m' hl' he' _=>?_;have e5:=B6 he;have e6:=B6 he';subst e5 e6;have lt1:q<UC.heap.objs.size:=va hl;have lt2:r<UC.heap.objs.size:=va hl';show call_zip_2 (l1:=q) (l2:=r) (xs:= #[]) (ys:= #[]) ⟨_,hl,rfl,_,rfl⟩ ⟨_,hl',rfl,_,rfl⟩ fun h' hz hTI hTO hi1 hi2 hsz hk=>?_;show wpAny_pyIter_zip hz ?_;have D:=ktu_apart UC.heap.objs.size q r lt1 lt2;have Wk:=WalksT.zip2 (prog:=Ω.p) (w:=Ω.w) (A:=c.A) c.handled _ _ _ _ _ _ _ D #[] #[];show tC (fun n s=>s.heap=h'/\vn UC s) ?_ 0 ⟨rfl,rfl,rfl⟩;intro n s3 ⟨e7,q7⟩;show Wk.done s3 _ _ (by rw[e7];show⟨hz,hTI,⟨_,_,hTO⟩,hi1,hi2,⟨_,hk _ _ hl,rfl,_,rfl⟩,⟨_,hk _ _ hl',rfl,_,rfl⟩⟩) fun h'' tk ext=>?_;show⟨.next,l,Uw,rfl,UA.grown (fun b o e=>?_) ⟨q7.1,q7.2⟩,h3⟩;have lb:=va e;show ext b o ?_ (by rw[e7];show hk b o e);show fun hm=>MW lb (by simpa using hm)
end
set_option tactic.hygienic true
noncomputable section
open MeetsSeq
set_option maxRecDepth 100000
theorem xS:GL "MOST_WIDTH" (.int 8 2209):=mL
theorem wh:GL "OF_THE_FILE" (.ref 1580):=mL
theorem B7:GL "OWN_KEYS" (.ref 1420):=mL
theorem JA:GL "WAYS" (.ref 1419):=mL
theorem Aw:GL "full_name" (.ref 1378):=mL
theorem MX:GB "max" (.builtin "max"):=mB
theorem mo:GL "read_cross_stream" (.ref 1490):=mL
theorem uO:GL "read_section" (.ref 1650):=mL
theorem B8:GL "undo_one" (.ref 1411):=mL
theorem MY:GB "zip" (.type "zip"):=mB
theorem HC:GC "Paper" (.ref 1797):=mC
theorem pT:GC "Section" (.ref 1597):=mC
theorem HD:GC "Shelf" (.ref 531):=mC
theorem wi:GC "chain_along" (.ref 1657):=mC
theorem pU:GC "classic_section" (.ref 1629):=mC
theorem rv:GC "counts_in" (.ref 1441):=mC
theorem DR:GC "decoded" (.ref 1418):=mC
theorem xT:GC "entries_of" (.ref 1469):=mC
theorem HE:GC "field" (.ref 1427):=mC
theorem uP:GC "filter_names" (.ref 1385):=mC
theorem uQ:GC "filter_parms" (.ref 1390):=mC
theorem xU:GC "find_start" (.ref 835):=mC
theorem rx:GC "hybrid_section" (.ref 1636):=mC
theorem tY:GC "is_count" (.ref 1434):=mC
theorem pV:GC "is_cross_stream" (.ref 1483):=mC
theorem ry:GC "joined_entries" (.ref 1622):=mC
theorem iV:GC "newest_entries" (.ref 1669):=mC
theorem xV:GC "numbers_in" (.ref 1455):=mC
theorem mq:GC "offset_told" (.ref 1615):=mC
theorem B9:GC "overlaid" (.ref 828):=mC
theorem uR:GC "read_classic" (.ref 821):=mC
theorem sR:GC "read_indirect" (.ref 737):=mC
theorem Ax:GC "row_entry" (.ref 1462):=mC
theorem xW:GC "section_by" (.ref 1643):=mC
theorem wj:GC "sections_of" (.ref 1664):=mC
theorem iW:GC "stream_section" (.ref 1608):=mC
theorem xX:GC "trailer_of" (.ref 1476):=mC
theorem Ay:GC "widths_in" (.ref 1448):=mC
def fm:Fn:=bZ "filter_names" (tF 167) ["shelf","head","given","names","item","name"] [gE zU,gB aV,gE Aw,gB m4]
def uS:eF fm:=(.name 4 (z 27271212))
def uT:CB fm:= .K (.a 5 (.m "fetch" (.v 0 27294770) 27294776 27294782 [(.v 4 27296581)]) 27293712 27293732) (.K (.ite (.not (.val (.c 1 27317275 [(.v 5 27318930),(.g 0 27319836)] 27317287)) (z 27316687)) (.K (.dead (bA (bg 0 (bA (bg 0 (bA (bg 0 (tF 167)) 3)) 1)) 0)) .nil) .nil ⟨1214,8,1215,57⟩) (.K (.expr (.m "append" (.v 3 27361213) 27361220 27361242 [(.c 2 27363180 [(.attr (.v 5 27364685) .text (z 27364690))] 27363191)]) (z 27361242)) .nil))
def mr:CB fm:= .K (.a 2 (.m "get" (.v 0 27181817) 27181821 27181837 [(.v 1 27183326),(.s "Filter" 27184236)]) 27180609 27180637) (.K (.ite (.q (.v 2 27203562) .Is (.o 27204920) 27203570) (.K (.t (.l 27227267 []) 27226217) .nil) .nil ⟨1209,4,1210,17⟩) (.K (.a 3 (.l 27249314 []) 27248109 27248114) (.K (.for_ uS (.ifexp (.val (.c 1 27273785 [(.v 2 27275441),(.g 3 27276497)] 27273798)) (.v 2 27272421) (.l 27278161 [(.v 2 27278310)]) (z 27272461)) uT ⟨1212,4,1216,42⟩) (.K (.t (.v 3 27384166) 27383116) .nil))))
theorem wm:DT fm 1385 1384 2 mr:=dm (tF 167) xj
def br:Fn:=jF "filter_parms" (zM (tF 168)) ["shelf","head","count","given","rows","found","item","row"] [.cell,.local,.local,.local,.local,.local,.local,.cell] false [gB gn,gB m4,gB aV,gB bO,gB gW] zk
def c0:Fn:=jF "filter_parms" ⟨.function,[(".0",.local),("turn",.local)],false,false,[]⟩ ["turn"] [.local] true [] zk
noncomputable def gp:Scope:=⟨.function,[(".0",.local),("turn",.local)],false,false,[]⟩
theorem mt:cE br c0 gp none:=kj zk zk
def rA:eF c0:=(.name 0 (z 27475977))
def rB:CE c0:=(.dict0 (z 27474918))
def uU:eF br:=(.name 6 (z 27586212))
def uV:CB br:= .K (.a 7 (.m "fetch" (.v 0 27609619) 27609625 27609631 [(.v 6 27611430)]) 27608711 27608731) (.K (.ite (.q (.v 7 27631664) .Is (.o 27632722) 27631672) (.K (.a 7 (.dict0 (z 27655220)) 27654315 27654320) .nil) .nil ⟨1228,8,1229,20⟩) (.K (.ite (.not (.val (.c 2 27677275 [(.v 7 27678929),(.g 4 27679685)] 27677286)) (z 27676686)) (.K (.dead (bA (bg 0 (bA (bg 0 (bA (bg 0 (tF 168)) 5)) 2)) 0)) .nil) .nil ⟨1230,8,1231,60⟩) (.K (.dead (bA (bg 0 (bA (bg 0 (tF 168)) 5)) 3)) .nil)))
def iw:CB br:= .K (.a 3 (.m "get" (.v 0 27429317) 27429321 27429342 [(.v 1 27430826),(.s "DecodeParms" 27431741)]) 27428109 27428142) (.K (.ite (.q (.v 3 27451062) .Is (.o 27452420) 27451070) (.K (.t (.listcomp (G:=c0) rA none rB (.c 0 27477186 [(.v 2 27478092)] 27477193) gp none (z 27474794) mt) 27473744) .nil) .nil ⟨1220,4,1221,44⟩) (.K (.a 4 (.ifexp (.val (.c 2 27498030 [(.v 3 27499686),(.g 1 27500742)] 27498043)) (.v 3 27496666) (.l 27502406 [(.v 3 27502555)]) (z 27496706)) 27495608 27495656) (.K (.ite (.q (.c 3 27518560 [(.v 4 27519165)] 27518566) .NotEq (.v 2 27520525) 27518575) (.K (.dead (bA (bg 0 (bA (bg 0 (tF 168)) 3)) 0)) .nil) .nil ⟨1223,4,1224,56⟩) (.K (.a 5 (.l 27564314 []) 27563109 27563114) (.K (.for_ uU (.v 4 27587420) uV ⟨1226,4,1232,73⟩) (.K (.t (.v 5 27744166) 27743116) .nil))))))
theorem wn:(iw:CB br).b=bg 0 (tF 168):=zk
theorem wq (W:WW):ic br Ω.w Ω.b 1390 (.ref 1389) (iw:CB br).b 3 fun vv=>br.names.zip vv:=
 m0 (st:=tF 168) (q:="filter_parms") (df:= .none) (pm:=xj) W zk zk (by rw[wn];kernel_rfl) zk rfl (fun vv hn=>by obtain⟨v0,v1,v2,rfl⟩:=Fw hn;kernel_rfl) (yN zk) zk (jG zk)
def m8:Fn:=bZ "decoded" (tF 172) ["shelf","stream","names","octets","name","parms"] [gC uP,gE B8,gB MY,gB bO,gC uQ]
def DS:eF m8:=(.tup [(4,(z 28328712)),(5,(z 28329619))] 0 (z 28328719))
def DU:CB m8:= .K (.a 3 (.c 1 28352575 [(.v 4 28353930),(.v 3 28354838),(.v 5 28356045)] 28352596) 28351214 28351246) .nil
def y3:CB m8:= .K (.a 2 (.c 0 28284324 [(.v 0 28286280),(.attr (.v 1 28287338) .head (z 28287343))] 28284344) 28283109 28283144) (.K (.a 3 (.attr (.v 1 28306969) .octets (z 28306976)) 28305610 28305626) (.K (.forzip0 DS (.g 2 28330976) rfl (fun _ _ _ _ _=>rfl) (.v 2 28331582) (.c 4 28332646 [(.v 0 28334602),(.attr (.v 1 28335660) .head (z 28335665)),(.c 3 28337620 [(.v 2 28338226)] 28337627)] 28332678) (z 28331029) DU ⟨1259,4,1260,46⟩) (.K (.t (.v 3 28374167) 28373117) .nil)))
theorem FY:DT m8 1418 1417 2 y3:=dm (tF 172) xj
def ve:Fn:=bZ "field" (tF 177) ["octets","total","code"] []
def Ca:eF ve:=(.name 2 (z 28531212))
def Cb:CB ve:= .K (.a 1 (.r (.r (.i 256 28554919) .Mult (.v 1 28555827) 28554927) .Add (.v 2 28557034) 28554934) 28553713 28553734) .nil
def ES:CB ve:= .K (.a 1 (.i 0 28509313) 28508109 28508113) (.K (.for_ Ca (.v 0 28532422) Cb ⟨1268,4,1269,34⟩) (.K (.t (.v 1 28576666) 28575616) .nil))
theorem JB:DT ve 1427 1426 1 ES:=dm (tF 177) yx
def wr:Fn:=bZ "is_count" (tF 178) ["value"] [gB sH,gB aV,gB zV]
def wt:CB wr:= .K (.t (.allv .And [(.c 1 28621671 [(.v 0 28623327),(.g 0 28624382)] 28621683),(.not (.c 1 28626503 [(.v 0 28628159),(.g 2 28629215)] 28626516) (z 28625916)),(.q (.v 0 28631028) .GtE (.i 0 28632383) 28631033)] (z 28621734)) 28620684) .nil
theorem DV:DT wr 1434 1433 1 wt:=dm (tF 178) yx
def iX:Fn:=bZ "counts_in" (tF 179) ["shelf","head","key","array","found","part","value"] [gB m4,gB aV,gC tY]
def rC:eF iX:=(.name 5 (z 28801212))
def rD:CB iX:= .K (.a 6 (.m "fetch" (.v 0 28824921) 28824927 28824933 [(.v 5 28826732)]) 28823713 28823733) (.K (.ite (.not (.val (.c 2 28847273 [(.v 6 28848629)] 28847280)) (z 28846680)) (.K (.dead (bA (bg 0 (bA (bg 0 (bA (bg 0 (tF 179)) 4)) 1)) 0)) .nil) .nil ⟨1282,8,1283,66⟩) (.K (.expr (.m "append" (.v 4 28891213) 28891220 28891227 [(.v 6 28893176)]) (z 28891227)) .nil))
def tZ:CB iX:= .K (.a 3 (.m "get" (.v 0 28666817) 28666821 28666832 [(.v 1 28668326),(.v 2 28669231)]) 28665609 28665632) (.K (.ite (.q (.v 3 28688562) .Is (.o 28689920) 28688570) (.K (.t (.o 28712269) 28711219) .nil) .nil ⟨1275,4,1276,19⟩) (.K (.ite (.not (.val (.c 1 28734171 [(.v 3 28735827),(.g 0 28736883)] 28734184)) (z 28733584)) (.K (.dead (bA (bg 0 (bA (bg 0 (tF 179)) 2)) 0)) .nil) .nil ⟨1277,4,1278,46⟩) (.K (.a 4 (.l 28779314 []) 28778109 28778114) (.K (.for_ rC (.v 3 28802421) rD ⟨1280,4,1284,27⟩) (.K (.t (.v 4 28914166) 28913116) .nil)))))
theorem Cc:DT iX 1441 1440 3 tZ:=dm (tF 179) yx
def t5:Fn:=bZ "widths_in" (tF 180) ["shelf","head","found"] [gC rv,gB bO,gB MX,gE xS]
def t6:CB t5:= .K (.a 2 (.c 0 28959321 [(.v 0 28960827),(.v 1 28961883),(.s "W" 28962788)] 28959339) 28958109 28958139) (.K (.ite (.all .Or [(.q (.v 2 28981062) .Is (.o 28982420) 28981070),(.q (.c 1 28983627 [(.v 2 28984233)] 28983634) .NotEq (.i 3 28985739) 28983639)] (z 28981089)) (.K (.dead (bA (bg 0 (bA (bg 0 (tF 180)) 1)) 0)) .nil) .nil ⟨1288,4,1289,50⟩) (.K (.ite (.q (.c 2 29026060 [(.v 2 29026666)] 29026067) .Gt (.g 3 29028030) 29026080) (.K (.dead (bA (bg 0 (bA (bg 0 (tF 180)) 2)) 0)) .nil) .nil ⟨1290,4,1291,53⟩) (.K (.t (.v 2 29071666) 29070616) .nil)))
theorem Cd:DT t5 1448 1447 2 t6:=dm (tF 180) yx
def rE:Fn:=bZ "numbers_in" (tF 181) ["shelf","head","runs","count"] [gC rv,gC tY,gB bO]
def rF:CB rE:= .K (.a 2 (.c 0 29116670 [(.v 0 29118176),(.v 1 29119232),(.s "Index" 29120141)] 29116692) 29115608 29115642) (.K (.ite (.q (.v 2 29138561) .Is (.o 29139769) 29138569) (.K (.a 3 (.m "get" (.v 0 29162421) 29162425 29162439 [(.v 1 29163930),(.s "Size" 29164838)]) 29161213 29161239) (.K (.ite (.not (.val (.c 1 29184773 [(.v 3 29186129)] 29184780)) (z 29184180)) (.K (.dead (bA (bg 0 (bA (bg 0 (bA (bg 0 (tF 181)) 1)) 1)) 0)) .nil) .nil ⟨1297,8,1298,48⟩) (.K (.a 2 (.l 29229775 [(.i 0 29229917),(.v 3 29230374)]) 29228712 29228725) .nil))) .nil ⟨1295,4,1299,25⟩) (.K (.ite (.q (.r (.c 2 29251060 [(.v 2 29251665)] 29251066) .Mod (.i 2 29252870) 29251070) .Eq (.i 1 29253625) 29251075) (.K (.dead (bA (bg 0 (bA (bg 0 (tF 181)) 2)) 0)) .nil) .nil ⟨1300,4,1301,60⟩) (.K (.t (.v 2 29296665) 29295615) .nil)))
theorem Az:DT rE 1455 1454 2 rF:=dm (tF 181) yx
def t7:Fn:=bZ "row_entry" (tF 182) ["row","widths","cut","way"] [gC HE,gE JA,gB bO,gC BV]
def t8:CB t7:= .K (.a 2 (.u (.v 1 29341516) (.i 0 29342568) 29341519) 29340607 29340619) (.K (.a 3 (.ifexp (.q (.v 2 29367033) .Gt (.i 0 29367937) 29367037) (.c 0 29364015 [(.slice (.v 0 29364919) none (some (.v 2 29365674)) none (z 29365524) (z 29364925))] 29364026) (.i 1 29368994) (z 29364044)) 29363107 29363144) (.K (.ite (.q (.v 3 29386060) .GtE (.c 2 29387117 [(.g 1 29387722)] 29387123) 29386073) (.K (.t (.o 29409769) 29408719) .nil) .nil ⟨1306,4,1307,19⟩) (.K (.t (.c 3 29431666 [(.u (.g 1 29432571) (.v 3 29433325) 29432576),(.c 0 29434233 [(.slice (.v 0 29435137) (some (.v 2 29435741)) (some (.r (.v 2 29436345) .Add (.u (.v 1 29437254) (.i 1 29438306) 29437257) 29436357)) none (z 29435757) (z 29435158))] 29434259),(.c 0 29439216 [(.slice (.v 0 29440120) (some (.r (.v 2 29440724) .Add (.u (.v 1 29441633) (.i 1 29442685) 29441636) 29440736)) none none (z 29440737) (z 29440138))] 29439239)] 29431740) 29430690) .nil)))
theorem Ce:DT t7 1462 1461 2 t8:=dm (tF 182) yx
def dB:Fn:=bZ "entries_of" (tF 183) ["octets","widths","runs","entries","known","size","at","spot","number","entry"] [gB bO,gC Ax,gB gn]
def oR:eF dB:=(.name 7 (z 29566212))
def xY:eF dB:=(.name 8 (z 29634318))
def xZ:CB dB:= .K (.ite (.q (.v 8 29657271) .In (.v 4 29658780) 29657280) (.K (.dead (bA (bg 0 (bA (bg 0 (bA (bg 0 (bA (bg 0 (tF 183)) 4)) 1)) 0)) 0)) .nil) .nil ⟨1318,12,1319,83⟩) (.K (.setitem (.bool true 0 (z 29704232)) (.v 4 29701817) (.v 8 29702724) (z 29701825) (z 29701832)) (.K (.a 9 (.c 1 29725529 [(.slice (.v 0 29727036) (some (.v 6 29728089)) (some (.r (.v 6 29728542) .Add (.v 5 29729299) 29728549)) none (z 29728099) (z 29727050)),(.v 1 29730358)] 29725559) 29724317 29724359) (.K (.ite (.q (.v 9 29747270) .IsNot (.o 29749232) 29747282) (.K (.setitem (.v 9 29772639) (.v 3 29769923) (.v 8 29771130) (z 29769931) (z 29769939)) .nil) .nil ⟨1322,12,1323,39⟩) (.K (.a 6 (.r (.v 6 29792569) .Add (.v 5 29793326) 29792576) 29791814 29791826) .nil))))
def oU:CB dB:= .K (.ite (.all .Or [(.q (.r (.v 6 29589163) .Add (.r (.v 5 29589920) .Mult (.u (.v 2 29590977) (.r (.v 7 29591732) .Add (.i 1 29592786) 29591736) 29590987) 29589937) 29589187) .Gt (.c 0 29593543 [(.v 0 29594150)] 29593551) 29589201),(.all .And [(.q (.v 5 29595960) .Eq (.i 0 29597165) 29595965),(.q (.u (.v 2 29598074) (.r (.v 7 29598829) .Add (.i 1 29599883) 29598833) 29598084) .Gt (.i 0 29600638) 29598088)] (z 29595988))] (z 29589239)) (.K (.dead (bA (bg 0 (bA (bg 0 (bA (bg 0 (tF 183)) 4)) 0)) 0)) .nil) .nil ⟨1315,8,1316,58⟩) (.K (.for_ xY (.c 2 29635827 [(.u (.v 2 29636732) (.v 7 29637487) 29636738),(.r (.u (.v 2 29638544) (.v 7 29639299) 29638550) .Add (.u (.v 2 29640507) (.r (.v 7 29641262) .Add (.i 1 29642316) 29641266) 29640517) 29638567)] 29635868) xZ ⟨1317,8,1324,26⟩) .nil)
def rG:CB dB:= .K (.a 3 (.dict0 (z 29477116)) 29475611 29475616) (.K (.a 4 (.dict0 (z 29499314)) 29498109 29498114) (.K (.a 5 (.r (.r (.u (.v 1 29521667) (.i 0 29522719) 29521670) .Add (.u (.v 1 29523479) (.i 1 29524531) 29523482) 29521682) .Add (.u (.v 1 29525291) (.i 2 29526343) 29525294) 29521694) 29520608 29520644) (.K (.a 6 (.i 0 29543860) 29543106 29543110) (.K (.for_ oR (.c 2 29567421 [(.i 0 29568323),(.c 0 29568778 [(.v 2 29569383)] 29568784),(.i 2 29570437)] 29567438) oU ⟨1314,4,1324,26⟩) (.K (.t (.v 3 29814168) 29813118) .nil)))))
theorem AA:DT dB 1469 1468 3 rG:=dm (tF 183) yx
def gZ:Fn:=bZ "trailer_of" (tF 184) ["head","found","key"] [gE B7]
def oV:eF gZ:=(.name 2 (z 29881211))
def oW:CB gZ:= .K (.ite (.q (.v 2 29904164) .NotIn (.g 0 29905830) 29904180) (.K (.setitem (.u (.v 0 29928779) (.v 2 29929533) 29928784) (.v 1 29926817) (.v 2 29927721) (z 29926822) (z 29926834)) .nil) .nil ⟨1329,8,1330,34⟩) .nil
def rH:CB gZ:= .K (.a 1 (.dict0 (z 29859314)) 29858109 29858114) (.K (.for_ oV (.v 0 29882269) oW ⟨1328,4,1330,34⟩) (.K (.t (.v 1 29949166) 29948116) .nil))
theorem AB:DT gZ 1476 1475 1 rH:=dm (tF 184) yx
def iY:Fn:=bZ "is_cross_stream" (tF 185) ["shelf","value","kind"] [gE yR,gB aV,gE zU]
def iZ:CB iY:= .K (.ite (.not (.val (.c 1 29994171 [(.v 1 29995827),(.g 0 29996885)] 29994186)) (z 29993586)) (.K (.t (.bool false 0 (z 30017270)) 30016220) .nil) .nil ⟨1333,4,1334,20⟩) (.K (.a 2 (.m "get" (.v 0 30039166) 30039170 30039190 [(.attr (.v 1 30040676) .head (z 30040681)),(.s "Type" 30042489)]) 30038108 30038140) (.K (.t (.allv .And [(.c 1 30061671 [(.v 2 30063326),(.g 2 30064232)] 30061683),(.q (.attr (.v 2 30065742) .text (z 30065747)) .Eq (.s "XRef" 30067707) 30065757)] (z 30061707)) 30060657) .nil))
theorem rI:DT iY 1483 1482 2 iZ:=dm (tF 185) yx
def gM:Fn:=bZ "read_cross_stream" (tF 186) ["shelf","stream","widths","runs","octets","fault"] [gC pV,gC Ay,gC xV,gC DR,gC xT,gC xX]
def gO:CB gM:= .K (.ite (.not (.val (.c 0 30106676 [(.v 0 30109082),(.v 1 30110140)] 30106691)) (z 30106091)) (.K (.dead (bA (bg 0 (bA (bg 0 (tF 186)) 0)) 0)) .nil) .nil ⟨1338,4,1339,54⟩) (.K (.a 2 (.c 1 30151972 [(.v 0 30153478),(.attr (.v 1 30154536) .head (z 30154541))] 30151992) 30150610 30150642) (.K (.a 3 (.c 2 30174171 [(.v 0 30175827),(.attr (.v 1 30176885) .head (z 30176890))] 30174191) 30173108 30173141) (.K (.try_ (.K (.a 4 (.c 3 30220074 [(.v 0 30221280),(.v 1 30222338)] 30220089) 30218714 30218739) .nil) (He (bA (bg 0 (tF 186)) 3)) ⟨1342,4,1345,46⟩) (.K (.t (.t 30286720 [(.c 4 30286822 [(.v 4 30288479),(.v 2 30289687),(.v 3 30290893)] 30286844),(.c 5 30291956 [(.attr (.v 1 30293613) .head (z 30293618))] 30291969)]) 30285670) .nil))))
theorem nR:DT gM 1490 1489 2 gO:=dm (tF 186) yx
def mu:Fn:=bZ "Section.__init__" (tM 200 0) ["self","at","entries","trailer"] []
def mv:CB mu:= .K (.setattr (.v 1 31975220) (.v 0 31973712) .at (z 31973715) (z 31973720)) (.K (.setattr (.v 2 31998480) (.v 0 31996212) .entries (z 31996220) (z 31996230)) (.K (.setattr (.v 3 32020980) (.v 0 32018712) .trailer (z 32018720) (z 32018730)) .nil))
theorem wu:DT mu 1594 1593 4 mv:=dm (tM 200 0) gF
def jS:Fn:=bZ "stream_section" (tF 201) ["data","at","read","value","fault","entries","trailer"] [gC fQ,gC sR,gC HD,gC pT]
def jT:CB jS:= .K (.try_ (.K (.a 3 (.u (.c 1 32087429 [(.c 0 32089536 [(.v 0 32090591),(.v 1 32091495)] 32089546)] 32087447) (.i 2 32092249) 32087450) 32086213 32086250) .nil) (He (bA (bg 0 (tF 201)) 0)) ⟨1425,4,1428,46⟩) (.K (.unpack (.call (.v 2 32155977) "read" (z 32155977) rfl [(.c 2 32156733 [] 32156735),(.v 3 32158092)] (z 32155993)) [(5,(z 32153111)),(6,(z 32154470))] 0 (z 32153120) (z 32153143)) (.K (.t (.c 3 32176668 [(.v 1 32177871),(.v 5 32178480),(.v 6 32179839)] 32176690) 32175640) .nil))
theorem sS:DT jS 1608 1607 3 jT:=dm (tF 201) gF
def dC:Fn:=bZ "joined_entries" (tF 203) ["upper","lower","found","number"] [gB gW]
def c7:eF dC:=(.name 3 (z 32401214))
def c8:CB dC:= .K (.ite (.all .Or [(.q (.v 3 32424167) .NotIn (.v 1 32426280) 32424180),(.q (.attr (.u (.v 0 32427639) (.v 3 32428546) 32427647) .way (z 32427651)) .NotEq (.s "free" 32430811) 32427661)] (z 32424211)) (.K (.setitem (.u (.v 0 32449233) (.v 3 32450140) 32449241) (.v 2 32446817) (.v 3 32447724) (z 32446825) (z 32446841)) .nil) .nil ⟨1441,8,1442,41⟩) .nil
def jU:CB dC:= .K (.a 2 (.c 0 32379316 [(.v 1 32380072)] 32379323) 32378109 32378123) (.K (.for_ c7 (.v 0 32402723) c8 ⟨1440,4,1442,41⟩) (.K (.t (.v 2 32469166) 32468116) .nil))
theorem sT:DT dC 1622 1621 2 jU:=dm (tF 203) gF
def i5:Fn:=bZ "classic_section" (tF 204) ["data","at","entries","trailer"] [gB bO,gC fQ,gC uR,gC pT]
def fo:CB i5:= .K (.ite (.not (.chain (.i 0 32514162) (z 32514180) .LtE .Lt (.v 1 32514918) (.c 0 32515674 [(.v 0 32516279)] 32515680)) (z 32513580)) (.K (.dead (bA (bg 0 (bA (bg 0 (tF 204)) 0)) 0)) .nil) .nil ⟨1445,4,1446,57⟩) (.K (.unpack (.c 2 32560985 [(.c 1 32562942 [(.v 0 32563997),(.v 1 32564901)] 32562952)] 32561003) [(2,(z 32558111)),(3,(z 32559470))] 0 (z 32558120) (z 32558153)) (.K (.t (.c 3 32581668 [(.v 1 32582871),(.v 2 32583480),(.v 3 32584839)] 32581690) 32580640) .nil))
theorem i6:DT i5 1629 1628 2 fo:=dm (tF 204) gF
def jV:Fn:=bZ "hybrid_section" (tF 205) ["data","at","read","section","beneath"] [gC pU,gC mq,gC iW,gC ry,gC pT]
def cy:CB jV:= .K (.a 3 (.c 0 32627129 [(.v 0 32629534),(.v 1 32630438)] 32627139) 32625611 32625639) (.K (.a 4 (.c 1 32649625 [(.v 0 32651430),(.attr (.v 3 32652339) .trailer (z 32652347)),(.s "XRefStm" 32654908)] 32649659) 32648111 32648159) (.K (.ite (.q (.v 4 32671064) .Is (.o 32672722) 32671072) (.K (.t (.v 3 32694772) 32693722) .nil) .nil ⟨1452,4,1453,22⟩) (.K (.t (.c 4 32716668 [(.v 1 32717871),(.c 3 32718487 [(.attr (.v 3 32720745) .entries (z 32720753)),(.attr (.c 2 32723319 [(.v 0 32725574),(.v 4 32726483),(.v 2 32727839)] 32723340) .entries (z 32723348))] 32718549),(.attr (.v 3 32730258) .trailer (z 32730266))] 32716767) 32715717) .nil)))
theorem dD:DT jV 1636 1635 3 cy:=dm (tF 205) gF
def rJ:Fn:=bZ "section_by" (tF 206) ["data","at","read","cursor"] [gC fQ,gC gV,gC iW,gC rx]
def rK:CB rJ:= .K (.a 3 (.c 0 32761969 [(.v 0 32763024),(.v 1 32763928)] 32761979) 32760610 32760629) (.K (.expr (.m "skip_white" (.v 3 32783110) 32783121 32783123 []) (z 32783123)) (.K (.ite (.val (.c 1 32806066 [(.m "peek" (.v 3 32807573) 32807578 32807580 [])] 32806081)) (.K (.t (.c 2 32829779 [(.v 0 32832034),(.v 1 32832938),(.v 2 32833544)] 32829795) 32828745) .nil) .nil ⟨1458,4,1459,45⟩) (.K (.t (.c 3 32851675 [(.v 0 32853930),(.v 1 32854834),(.v 2 32855440)] 32851691) 32850641) .nil)))
theorem AC:DT rJ 1643 1642 3 rK:=dm (tF 206) gF
def mw:Fn:=bZ "read_section" (tF 207) ["data","at"] [gE mo,gC xW]
def mx:CB mw:= .K (.t (.c 1 32896671 [(.v 0 32898326),(.v 1 32899230),(.g 0 32899849)] 32896700) 32895650) .nil
theorem wv:DT mw 1650 1649 2 mx:=dm (tF 207) gF
def oY:Fn:=bZ "sections_of" (tF 209) ["data","begin"] [gE uO,gC wi]
def oZ:CB oY:= .K (.t (.c 1 33211672 [(.v 0 33213477),(.v 1 33214384),(.g 0 33215448)] 33211699) 33210649) .nil
theorem ya:DT oY 1664 1663 2 oZ:=dm (tF 209) gF
def fT:Fn:=bZ "newest_entries" (tF 210) ["sections"] [gC B9]
def cq:Fn:=jF "newest_entries" ⟨.function,[(".0",.local),("section",.local)],false,false,[]⟩ ["section"] [.local] true [] zk
noncomputable def fp:Scope:=⟨.function,[(".0",.local),("section",.local)],false,false,[]⟩
theorem ku:cE fT cq fp none:=kj zk zk
def gP:eF cq:=(.name 0 (z 33261198))
def gQ:CE cq:=(.attr (.v 0 33258178) .entries (z 33258186))
def jW:CB fT:= .K (.t (.c 0 33256669 [(.listcomp (G:=cq) gP none gQ (.v 0 33262860) fp none (z 33258061) ku)] 33256712) 33255662) .nil
theorem sU:DT fT 1669 1668 1 jW:=dm (tF 210) gF
def bi:Fn:=jF "document_trailer" (zM (tF 211)) ["sections","trailer"] [.local,.cell] false [gB gW] zk
def bh:Fn:=jF "document_trailer" ⟨.function,[(".0",.local),("key",.local),("OF_THE_FILE",.globalImplicit),("trailer",.cell)],false,false,[]⟩ ["key","trailer"] [.local,.cell] true [gE wh] zk
noncomputable def dS:Scope:=⟨.function,[(".0",.local),("key",.local),("OF_THE_FILE",.globalImplicit),("trailer",.free)],false,false,[]⟩
theorem jt:cE bi bh dS (some (1,1,"trailer")):=qx zk zk zk
def fI:CT bh:=(.q (.v 0 33376412) .NotIn (.g 0 33378081) 33376431)
def fJ:eF bh:=(.name 0 (z 33373694))
def fK:CE bh:=(.t 33370086 [(.v 0 33370221),(.u (.v 1 33370980) (.v 0 33372184) 33370985)])
def ew:CB bi:= .K (.ite (.not (.val (.v 0 33301669)) (z 33301069)) (.K (.t (.dict0 (z 33324767)) 33323717) .nil) .nil ⟨1480,4,1481,17⟩) (.K (.a 1 (.attr (.u (.v 0 33347122) (.i 0 33348474) 33347125) .trailer (z 33347133)) 33345611 33345633) (.K (.t (.c 0 33369165 [(.listcomp (G:=bh) fJ (some fI) fK (.v 1 33374755) dS (some (1,1,"trailer")) (z 33369982) jt)] 33369233) 33368183) .nil))
theorem pW:(ew:CB bi).b=bg 0 (tF 211):=zk
theorem pX (W:WW):ic bi Ω.w Ω.b 1674 (.ref 1673) (ew:CB bi).b 1 fun vv=>bi.names.zip vv:=
 m0 (st:=tF 211) (q:="document_trailer") (df:= .none) (pm:=gF) W zk zk (by rw[pW];kernel_rfl) zk rfl (fun vv hn=>by obtain⟨v0,rfl⟩:=xt hn;kernel_rfl) (yN zk) zk (jG zk)
def rL:Fn:=bZ "Paper.__init__" (tM 224 0) ["self","data","sections"] [gC iV]
def rM:CB rL:= .K (.setattr (.v 1 35373024) (.v 0 35371212) .data (z 35371217) (z 35371224)) (.K (.setattr (.v 2 35396132) (.v 0 35393712) .sections (z 35393721) (z 35393732)) (.K (.setattr (.c 0 35418487 [(.v 2 35420746)] 35418497) (.v 0 35416212) .entries (z 35416220) (z 35416247)) (.K (.setattr (.attr (.u (.v 2 35440981) (.i 0 35442333) 35440984) .trailer (z 35440992)) (.v 0 35438712) .trailer (z 35438720) (z 35438742)) .nil)))
theorem AD:DT rL 1772 1771 3 rM:=dm (tM 224 0) gF
def o0:Fn:=bZ "Paper.entry" (tM 224 1) ["self","number"] []
def o6:CB o0:= .K (.t (.m "get" (.attr (.v 0 35507269) .entries (z 35507277)) 35507281 35507289 [(.v 1 35509838)]) 35506239) .nil
theorem yb:DT o0 1779 1778 2 o6:=dm (tM 224 1) gF
def HF:Fn:=bZ "load" (tF 225) ["data"] [gC xU,gC wj,gC HC]
def HG:CB HF:= .K (.t (.c 2 35686666 [(.v 0 35687571),(.c 1 35688484 [(.v 0 35690289),(.c 0 35691201 [(.v 0 35692856)] 35691207)] 35688508)] 35686709) 35685659) .nil
theorem MZ:DT HF 1808 1807 1 HG:=dm (tF 225) gF
end
set_option tactic.hygienic false
noncomputable section
open MeetsSeq
noncomputable abbrev y9:LU:=[120,114,101,102]
noncomputable abbrev fq:LU:=[116,114,97,105,108,101,114]
theorem HH {x y:LU}:x.isPrefixOf (x++y)=true:=QW.mpr ⟨y,rfl⟩
theorem fU (W:WW) {c N:Addr} {D x y:LU} {p:Nat} (C:cV σ c N D p) (hx:x.length<=100) (hd:D.drop p=x++y) (hq:Q (.bool true) (σ.set N (bb D (p+x.length)))):aa (k+2) (.ref 159) [.ref c,.bytes x] σ Q X:=
 lW W C hx (fun _=>hq) fun h=>by rw[hd,HH] at h;cases h
noncomputable abbrev cP (Uu:List cU):List (Str×PV):=Uu.map fun y=>(bd y.1,y.2)
theorem FZ {ts:List gY} {Us:LU} (hg:∀x∈ts,x.good) (h2:sG Us):sG (dk ts++Us):=by
 cases ts with
 | nil=>show h2
 | cons y ts=>
  have g2:=hg y zs;show sn (IN g2.n2) fun d r hnd=>?_;have fd:gw d=true:=g2.n1 d (by rw[hnd];show bJ);change sG (y.nd++_++_++_);rw[hnd];show rr fd
theorem ww (W:WW) {c N:Addr} {D R ws:LU} {p:Nat} {Uu:List cU} {ts:List gY} (C:cV σ c N D p) (hw:∀c∈ws,qm c=true)
 (hd:D.drop p=ws++(y9++([10]++(dk ts++(fq++([32]++([60,60]++(aC (dh Uu::cB Uu)++R)))))))) (hg:∀y∈Uu,bx y.1/\y.2.good) (hl:Uu.length<=49) (nd:(Uu.map (bd ·.1)).Nodup)
 (hr:∀x∈ts,x.good) (nr:(ts.map (ay 0 ·.nd)).Nodup) (lr:ts.length<=900)
 (hq:∀T E d UH,σ.But N UH->UH T=some (.tup [.ref E,.ref d])->di UH E (ts.map (·.row))->dj UH d (cP Uu)->Q (.ref T) UH):aa (k+8) (.ref 821) [.ref c] σ Q X:=by
 show(af W iu (mj W) rfl zd ?_).call;show ad C.i C.n (f:=166) zk ?_;show aE W C hw (by show⟨zd,zd⟩) hd ?_;have C1:=C.step hd;have d1:=ac hd;show ad C1.i C1.n (f:=159) zk ?_;show fU W C1 zd d1 ?_;have C2:=C1.step d1;have d2:=ac d1;left;intro E ep hE;have S:=AS.Sub.set (o:= .dict ep []) hE;have C3:=C2.sub S;have hE0:=(AS.UM ((AS.UM hE).2)).2;show ad C3.i C3.n (f:=166) zk ?_;show aE W C3 (ws:=[10]) zd (FZ hr (by show⟨zd,zd⟩)) d2 ?_;have d3:=ac d2;have T3:Tb σ _ c N D _ E []:=⟨C3,⟨ep,AS.UJ⟩,aF,((AS.But.of_set.set (.inl rfl)).sub S),hE0⟩;have T4:=T3.move (aB d2 C3.le);show⟨_,Av (Us:=fq++([32]++([60,60]++(aC (dh Uu::cB Uu)++R)))) W (by change gw 116=false;decide) (show sG (116::([114,97,105,108,101,114]++([32]++([60,60]++(aC (dh Uu::cB Uu)++R))))) from⟨zd,zd⟩) nofun ts _ _ [] T4 hr (by simpa using nr) (by simpa using lr) d3 fun UH l' T5 e5=>?_⟩;have d4:=ac d3;show ad T5.C.i T5.C.n (f:=159) zk ?_;show fU W T5.C zd d4 ?_;have T6:=T5.move (aB d4 T5.C.le);have d5:=ac d4;left;show mn W T6.C fk d5 hg hl nd fun d UI q B hN ht _=>?_;show aw T6.e fun ep6 e6=>?_;have tab:di _ E (ts.map (·.row)):=⟨ep6,l',e6,T6.r,by simpa using e5⟩;have tab2:=tab.but B T6.C.n;show⟨zl,?_⟩;intro T hT;have S7:=AS.Sub.set (o:= .tup [.ref E,.ref d]) hT;show hq T E d _ ((T6.ext.trans B).sub S7) AS.UJ (tab2.sub S7) (ht.sub S7)
def gR (σ:AS) (S:Addr) (at_:Nat) (rows:List aY) (kv:List (Str×PV)):Prop:=∃M E d,At σ S M 1597 [(.at,.int at_),(.entries,.ref E),(.trailer,.ref d)]/\di σ E rows/\dj σ d kv
theorem gR.sub {σ UH:AS} {S:Addr} {at_:Nat} {rows:List aY} {kv:List (Str×PV)} (h:gR σ S at_ rows kv) (s:σ.Sub UH):gR UH S at_ rows kv:=by
 show eg h fun M E d h1 h2 h3=>?_;show⟨M,E,d,h1.sub s,h2.sub s,h3.sub s⟩
theorem m9 (W:WW) {u v x:AV} (hn:Bs u=true/\Bs v=true/\Bs x=true) (hq:∀a N,σ a=none->σ N=none->a≠N->Q (.ref a) (σ.mk a N 1597 [(.at,u),(.entries,v),(.trailer,x)])):aa (k+2) (.ref 1597) [u,v,x] σ Q X:=by
 show iM W (f:=1594) zk zk zk fun a N h1 h2 h3=>?_;show af W mv (wu W) rfl zd ?_;right;simp only [AS.mk_eq h3];show⟨trivial,hq a N h1 h2 h3⟩
theorem AS.But.toSub {a N:Addr} {σ UH:AS} {x y:AO} (hN:σ N=none) (ha:σ a=none) (h:a≠N) (B:((σ.set N x).set a y).But N UH):σ.Sub UH:=fun b o e=>B b o (ez (aR hN e)) ((AS.Sub.set hN).trans (AS.Sub.set ((AS.UK h).trans ha)) b o e)
structure eH (D:LU) (p:Nat) (ts:List gY) (Uu:List cU):Prop where
 ex:∃ws R,(∀c∈ws,qm c=true)/\D.drop p=ws++(y9++([10]++(dk ts++(fq++([32]++([60,60]++(aC (dh Uu::cB Uu)++R)))))))
 ig:∀y∈Uu,bx y.1/\y.2.good
 il:Uu.length<=49
 ind:(Uu.map (bd ·.1)).Nodup
 tg:∀x∈ts,x.good
 tnd:(ts.map (ay 0 ·.nd)).Nodup
 tl:ts.length<=900
theorem eH.lt {D:LU} {p:Nat} {ts:List gY} {Uu:List cU} (h:eH D p ts Uu):p<D.length:=by
 show bQ h.ex fun ws R _ e=>?_;have:=congrArg List.length e;rw[Fl] at this;simp at this;lia
theorem i7 (W:WW) {D:LU} {p:Nat} {Uu:List cU} {ts:List gY} (hz:D.length<=1000000) (h:eH D p ts Uu)
 (hq:∀S UH,σ.Sub UH->gR UH S p (ts.map (·.row)) (cP Uu)->Q (.ref S) UH):aa (k+9) (.ref 1629) [.bytes D,.int p] σ Q X:=by
 have lt:=h.lt;show bQ h.ex fun ws R hw hd=>?_;show(af W fo (i6 W) rfl zd ?_).call;left;show am zo ?_;show Br.neg zu ?_;show gm W (.inl rfl) hz fun a N ha hN hne=>?_;have C:=cV.new (σ:=σ) (p:=p) hne (Nat.le_of_lt lt) hz;show ww W C hw hd h.ig h.il h.ind h.tg h.tnd h.tl fun T E d UH B hT hE hd=>?_;have S:=AS.But.toSub hN ha hne B;show aD hT ⟨rfl,?_⟩;show m9 W ⟨rfl,rfl,rfl⟩ fun s M hs hM hne=>?_;have S2:=AS.Sub.mk (C:=1597) (m:=[(.at,.int p),(.entries,.ref E),(.trailer,.ref d)]) hs hM hne;show hq s _ (S.trans S2) ⟨M,E,d,At.new hne,hE.sub S2,hd.sub S2⟩
theorem o7 (W:WW) {c N:Addr} {D ws ds Us:LU} {p:Nat} (C:cV σ c N D p) (hw:∀c∈ws,qm c=true) (g:dA ds) (hr:BE Us) (hd:D.drop p=ws++(ds++Us)) (hq:Q (.int (ay 0 ds)) (σ.set N (bb D (p+ws.length+ds.length)))):aa (k+5) (.ref 729) [.ref c] σ Q X:=by
 show aa.forget ?_;show(af W oM (xP W) rfl zd ?_).call;show bC W C (.int ds) hw ⟨g.1,g.2.1,g.2.2,hr⟩ hd fun T hT=>?_;show aD AS.UJ ⟨rfl,?_⟩;left;show⟨_,AS.Sub.set hT,hq⟩
theorem Cf (W:WW) {d:Addr} {ep n:Nat} {xs:List (AK×AV)} (h:σ d=some (.dict ep xs)) (hv:bl xs (.s "Length")=some (.int n)) (hq:Q (.int n) σ):aa (k+2) (.ref 700) [.ref d,.none] σ Q X:=by
 show(af W tR (BW W) rfl zd ?_).call;show jQ h ?_;show mX (x:= .s "Length") h ?_;rw[hv];left;show vW W (Int.natCast_nonneg n) ?_;left;show hq
theorem t9 (W:WW) {c N:Addr} {D ws x Us:LU} {p:Nat} (C:cV σ c N D p) (hw:∀c∈ws,qm c=true) (hx:sG (x++Us)) (hl:x.length<=100) (hr:BE Us) (hd:D.drop p=ws++(x++Us)) (hq:Q (.bool true) (σ.set N (bb D (p+ws.length+x.length)))):
 aa (k+3) (.ref 722) [.ref c,.bytes x] σ Q X:=by
 have C':=C;obtain⟨q1,q2,q3,q4,q5⟩:=C;show aa.forget ?_;show(af W tT (BX W) rfl zd ?_).call;right;show gm W (.inr (.inl rfl)) q5 fun a M ha hM hne=>?_;have K:=cV.new (σ:=σ) hne q4 q5;have S:σ.Sub (σ.mk a M 211 [(.data,.bytes D),(.at,.int p),(.end_,.int D.length)]):=AS.Sub.mk ha hM hne;show ad K.i K.n (f:=166) zk ?_;show aE W K hw hx hd ?_;have K2:=K.step hd;have d2:=ac hd;show ad K2.i K2.n (f:=159) zk ?_;show fU W K2 hl d2 ?_;have K3:=K2.step d2;have d3:=ac d2;left;show ad K3.i K3.n (f:=138) zk ?_;show eo W K3 ?_;have fin:∀P:aG,P (.bool false) (((σ.mk a M 211 [(.data,.bytes D),(.at,.int p),(.end_,.int D.length)]).set M (bb D (p+ws.length))).set M (bb D (p+ws.length+x.length)))->aa (k+2) (.ref 101) [.int (pk D (p+ws.length+x.length))] (((σ.mk a M 211 [(.data,.bytes D),(.at,.int p),(.end_,.int D.length)]).set M (bb D (p+ws.length))).set M (bb D (p+ws.length+x.length))) P fun _ _=>False:=by
  intro P hp;cases Us with
  | nil=>
   have:D.length<=p+ws.length+x.length:=by
    have:=congrArg List.length d3;rw[Fl] at this;simp at this;lia
   rw[Hg this];show sF W hp
  | cons d r=>
   rw[cF d3];show kq W ?_;rw[show qD d=false from hr];show hp
 show fin _ ?_;left;show AttrJ.of K3.i K3.n rfl zk rfl ?_;rw[AS.mk_eq hne,AS.mk_eq hne];have i1:=S _ _ q1;have n1:=S _ _ q2;have S3:σ.Sub (σ.mk a M 211 [(.data,.bytes D),(.at,.int (p+ws.length+x.length:Nat)),(.end_,.int D.length)]):=AS.Sub.mk ha hM hne;show j9.of (S3 _ _ q1) (S3 _ _ q2) zk (by show zy rfl) ?_;show⟨_,S3.up,hq⟩
noncomputable abbrev rN:LU:=[115,116,114,101,97,109]
noncomputable abbrev cJ:LU:=[101,110,100,115,116,114,101,97,109]
noncomputable abbrev g0:LU:=[101,110,100,111,98,106]
theorem HI (W:WW) {d:Addr} {b:LU} (hq:∀a N,σ a=none->σ N=none->a≠N->Q (.ref a) (σ.mk a N 394 [(.head,.ref d),(.octets,.bytes b)])):aa (k+2) (.ref 394) [.ref d,.bytes b] σ Q X:=by
 show iM W (f:=391) zk zk zk fun a N h1 h2 h3=>?_;show af W ov (xD W) rfl zd ?_;right;simp only [AS.mk_eq h3];show⟨trivial,hq a N h1 h2 h3⟩
theorem yc (W:WW) {c N d:Addr} {D body Us:LU} {p ep:Nat} {xs:List (AK×AV)} (C:cV σ c N D p) (h:σ d=some (.dict ep xs)) (hv:bl xs (.s "Length")=some (.int body.length)) (hd:D.drop p=[10]++(body++([10]++(cJ++Us))))
 (hq:∀s M,(σ.set N (bb D (p+body.length+11))) s=none->(σ.set N (bb D (p+body.length+11))) M=none->s≠M->Q (.ref s) ((σ.set N (bb D (p+body.length+11))).mk s M 394 [(.head,.ref d),(.octets,.bytes body)])):
 aa (k+4) (.ref 715) [.ref c,.ref d,.none] σ Q X:=by
 have C1:=C.step hd;have d1:=ac hd;have d2:=ac d1;have d3:=ac d2;show aa.forget ?_;show(af W js (xO W) rfl zd ?_).call;show ad C.i C.n (f:=180) zk ?_;show jM W C hd ?_;show AttrJ.of C1.i C1.n rfl zk rfl ?_;show Cf W (aA h C.n nofun) hv ?_;left;show AttrJ.of C1.i C1.n rfl zk rfl ?_;show AttrJ.of C1.i C1.n rfl zk rfl ?_;show gm W (p:=p+1+body.length) (.inr (.inl rfl)) C.small fun a M ha hM hne=>?_;have le2:p+1+body.length<=D.length:=aB d1 C1.le;have K:=cV.new (σ:=σ.set N (bb D (p+1))) hne le2 C.small;show ad K.i K.n (f:=180) zk ?_;show jM W K d2 ?_;have K2:=K.step d2;show ad K2.i K2.n (f:=159) zk ?_;show fU W K2 zd d3 ?_;have K3:=K2.step d3;left;show AttrJ.of K3.i K3.n rfl zk rfl ?_;rw[AS.mk_eq hne,AS.mk_eq hne];have hp:p+1+body.length+([10]:LU).length+cJ.length=p+body.length+11:=by simp;lia
 rw[hp];have S3:(σ.set N (bb D (p+1))).Sub ((σ.set N (bb D (p+1))).mk a M 211 [(.data,.bytes D),(.at,.int (p+body.length+11:Nat)),(.end_,.int D.length)]):=AS.Sub.mk ha hM hne;show j9.of (S3 _ _ C1.i) (S3 _ _ C1.n) zk (by show zy rfl) ?_;have S4:=S3.up (a:=N) (o:=bb D (p+body.length+11));rw[AS.UL] at S4;have le3:p+body.length+11<=D.length:=by
  have:=aB d3 K2.le;simp only [fF,List.length_nil] at this;lia
 have C4:=(C.move le3).sub S4;show AttrJ.of C4.i C4.n rfl zk rfl ?_;show eY (a:=p+1) (b:=p+1+body.length) rfl rfl C.small ?_;rw[show(D.drop (p+1)).take (p+1+body.length-(p+1))=body from yQ d1];show HI W fun s M2 hs hM2 hne2=>?_;show⟨_,(S4.up).up,hq s M2 (S4.none hs) (S4.none hM2) hne2⟩
structure rO (D:LU) (p:Nat) (nd gd:LU) (Uu:List cU) (body:LU):Prop where
 ex:∃ws R,(∀c∈ws,qm c=true)/\BE R/\D.drop p=ws++(nd++([32]++(gd++([32]++([111,98,106]++([32]++([60,60]++(aC (dh Uu::cB Uu)++([10]++(rN++([10]++(body++([10]++(cJ++([32]++(g0++R))))))))))))))))
 n:dA nd
 g:dA gd
 ig:∀y∈Uu,bx y.1/\y.2.good
 il:Uu.length<=49
 ind:(Uu.map (bd ·.1)).Nodup
 len:∃ds,ay 0 ds=body.length/\(("Length":Str),PV.int ds)∈cP Uu
theorem jX {σ:AS} {done:List (NV×PV)} {kv:List (Str×PV)} (h1:fR σ done) (h2:done.map (fun y=>(y.1.s,y.2))=kv) (nd:(kv.map (·.1)).Nodup) {s:Str} {x:PV} (h:(s,x)∈kv):∃v,bl (cx (done.map fun y:NV×PV=>y.1)) (.s s)=some v/\gL σ v x:=by
 subst h2;show ae (bp.mp h) fun y hy e=>?_;injection e with e1 e2;subst e1 e2;show⟨y.1.v,mc (pN ?_) (bp.mpr ⟨y.1,bp.mpr ⟨y,hy,rfl⟩,rfl⟩),(h1 y hy).2⟩;rw[bq] at nd⊢;show nd
theorem sV {done:List (NV×PV)} {kv:List (Str×PV)} (h2:done.map (fun y=>(y.1.s,y.2))=kv) {s:Str} (h:∀y∈kv,y.1≠s):bl (cx (done.map fun y:NV×PV=>y.1)) (.s s)=none:=by
 subst h2;show sQ fun p hp e=>?_;show ae (bp.mp hp) fun z hz hr2=>?_;subst hr2;show ae (bp.mp hz) fun y hy hr2=>?_;subst hr2;show h _ (bp.mpr ⟨y,hy,rfl⟩) (AK.s.inj e)
theorem uW (W:WW) {c N:Addr} {D body nd gd:LU} {p:Nat} {Uu:List cU} (C:cV σ c N D p) (h:rO D p nd gd Uu body)
 (hq:∀T s M d UH,σ.But N UH->UH T=some (.tup [iv nd,iv gd,.ref s])->At UH s M 394 [(.head,.ref d),(.octets,.bytes body)]->dj UH d (cP Uu)->Q (.ref T) UH):aa (k+7) (.ref 737) [.ref c] σ Q X:=by
 show aH h.ex fun ws R hw hR hd=>?_;show ae h.len fun ds l1 l2=>?_;have C1:=C.step hd;have d1:=ac hd;have C2:=C1.step d1;have d2:=ac d1;have C3:=C2.step d2;have d3:=ac d2;have C4:=C3.step d3;have d4:=ac d3;have C5:=C4.step d4;have d5:=ac d4;have C6:=C5.step d5;have d6:=ac d5;show(af W gx (uN W) rfl zd ?_).call;show o7 W C hw h.n wf hd ?_;rw[<-AS.UL (x:=bb D (p+ws.length)) (a:=N)];show o7 W C2 fk h.g wf d2 ?_;rw[<-AS.UL (x:=bb D (p+ws.length+nd.length+([32]:LU).length)) (a:=N) (y:=bb D (p+ws.length+nd.length+([32]:LU).length+gd.length))];show bC W C4 (.word 111 [98,106]) fk ⟨zd,zd,zd,wf⟩ d4 fun T hT=>?_;rw[<-AS.UL (x:=bb D (p+ws.length+nd.length+([32]:LU).length+gd.length+([32]:LU).length)) (a:=N)] at hT⊢;have S:=AS.Sub.set (o:= .tup [.str (Tk.word 111 [98,106]).kind,(Tk.word 111 [98,106]).worth,.int (p+ws.length+nd.length+([32]:LU).length+gd.length+([32]:LU).length:Nat)]) hT;have C7:=C6.sub S;show aD AS.UJ ⟨rfl,?_⟩;left;show oP W C7 fk d6 h.ig h.il h.ind fun d UH r=>?_;have d7:=ac d6;have d8:=ac d7;have d9:=ac d8;have l9:=aB d8 (aB d7 (aB d6 C7.le));show aH r.dict fun ep done h1 h2 h3=>?_;have hT:dj UH d (cP Uu):=⟨ep,done,h1,h2,h3⟩;obtain⟨v,g1,g2⟩:=jX h2 h3 (by rw[bq];show h.ind) l2;have g2':v= .int body.length:=by rw[show v=_ from g2,l1]
 subst g2';have B0:σ.But N UH:=AS.But.trans (AS.But.of_set.trans (AS.But.of_set.trans (AS.But.of_set.trans (AS.But.of_set.trans (AS.But.of_set.trans (AS.But.of_set.sub S)))))) r.but;obtain⟨q,rn,l9,d9⟩:∃q,UH N=some (bb D q)/\q<=D.length/\D.drop q=[10]++(rN++([10]++(body++([10]++(cJ++([32]++(g0++R))))))):=⟨_,r.n,l9,d9⟩;have K:cV UH c N D q:=⟨r.c,rn,C.ne,l9,C.small⟩;show cH W (fc h1) (b:=true) zk ?_;left;show t9 (Us:=[10]++(body++([10]++(cJ++([32]++(g0++R)))))) W K (ws:=[10]) zd (show sG (115::([116,114,101,97,109]++([10]++(body++([10]++(cJ++([32]++(g0++R)))))))) from⟨zd,zd⟩) zd (show qD 10=false by decide) d9 ?_;have d10:=ac (ac d9);have K2:=K.move (aB (ac d9) (aB d9 l9));generalize q+([10]:LU).length+rN.length=q2 at d10 K2⊢;have h1':=aA (x:=bb D q2) h1 K.n nofun
 have T1:=hT.but (AS.But.of_set (x:=bb D q2)) K.n;have d11:=ac (ac (ac (ac d10)));have l11:=aB (ac (ac (ac d10))) (aB (ac (ac d10)) (aB (ac d10) (aB d10 K2.le)));have e11:q2+([10]:LU).length+body.length+([10]:LU).length+cJ.length=q2+body.length+11:=by simp;lia
 rw[e11] at d11 l11;left;show yc W K2 h1' g1 d10 fun s M hs hM hne=>?_;have T2:=(T1.but (AS.But.of_set (x:=bb D (q2+body.length+11))) K2.n).sub (AS.Sub.mk (C:=394) (m:=[(.head,.ref d),(.octets,.bytes body)]) hs hM hne);have K3:=(K2.move l11).sub (AS.Sub.mk (C:=394) (m:=[(.head,.ref d),(.octets,.bytes body)]) hs hM hne);have A3:=At.new (σ:=(UH.set N (bb D q2)).set N (bb D (q2+body.length+11))) (C:=394) (m:=[(.head,.ref d),(.octets,.bytes body)]) hne;have B3:=((B0.trans (AS.But.of_set (x:=bb D q2))).trans (AS.But.of_set (x:=bb D (q2+body.length+11)))).sub (AS.Sub.mk (C:=394) (m:=[(.head,.ref d),(.octets,.bytes body)]) hs hM hne);show t9 (Us:=R) W K3 fk (show sG (101::([110,100,111,98,106]++R)) from⟨zd,zd⟩) zd hR d11 ?_;have A4:=A3.keep (x:=bb D (q2+body.length+11+([32]:LU).length+g0.length)) K3.n nofun (fun e=>by cases e);have T4:=T2.but (AS.But.of_set (x:=bb D (q2+body.length+11+([32]:LU).length+g0.length))) K3.n;have B4:=B3.trans (AS.But.of_set (x:=bb D (q2+body.length+11+([32]:LU).length+g0.length)));show⟨zl,?_⟩;intro Z hZ;have S9:=AS.Sub.set (o:= .tup [iv nd,iv gd,.ref s]) hZ;show hq Z s M d _ (B4.sub S9) AS.UJ (A4.sub S9) (T4.sub S9)
theorem k9.sub {σ UH:AS} {v:AV} {t:Value} (h:k9 σ v t) (S:σ.Sub UH):k9 UH v t:=⟨fun Up g hp u O rs X e=>h.run Up g hp u O (rs.sub S) X e⟩
def ju (σ:AS) (v:AV):Prop:=∃t,k9 σ v t/\kitOne (KK Ω.w.params) t (.ref 422)=some false
theorem M0 {n:Int}:ju σ (.int n):=⟨_,iT,zk⟩
theorem ET:ju σ .none:=⟨_,BN,zk⟩
theorem JC {p:Addr} {xs:List AV} (h:σ p=some (.list xs)):ju σ (.ref p):=⟨_,BO h,zk⟩
theorem JD {a:Addr} {s:Str} (h:bv σ a s):ju σ (.ref a):=by
 obtain⟨N,i,n⟩:=h;show⟨_,vS i n zk,zk⟩
theorem EU (W:WW) {a v:AV} (h:ju σ v) (hq:Q v σ):aa (k+1) (.ref 467) [a,v] σ Q X:=by
 show ae h fun t h1 h2=>?_;show aa.forget ?_;show(af W lY (vN W) rfl zd ?_).call;show jL fun R hR=>?_;have S:=AS.Sub.set (o:= .rng 0 30 1) hR;show eQ.of (dM (a:=((0:Nat):Int)) (b:=((30:Nat):Int)) (BR zd zd) (by rw[tP];lia)) AS.UJ ?_;rw[q9];show m6 W (h1.sub S) h2 ?_;left;show⟨σ,S,hq⟩
def cK (σ:AS) (a:Addr):Prop:=∃N m,At σ a N 531 m
theorem cK.sub {σ UH:AS} {a:Addr} (h:cK σ a) (S:σ.Sub UH):cK UH a:=by obtain⟨N,m,h⟩:=h;show⟨N,m,h.sub S⟩
theorem JE (W:WW) (hq:∀a UH,σ.Sub UH->cK UH a->Q (.ref a) UH):aa (k+2) (.ref 531) [] σ Q X:=by
 show iM W (f:=460) zk zk zk fun a N h1 h2 h3=>?_;show af W jn (xF W) rfl zd ?_;left;intro T ep hT;show aL (AS.UM hT) fun t1 hT'=>?_;show aL (AS.UM hT') fun t2 hT'=>?_;right;left;intro T2 ep2 hT2;show aL (AS.UM hT2) fun u1 hU=>?_;show aL (AS.UM hU) fun u2 hU=>?_;show aL (AS.UM hU) fun u3 hU=>?_;show aL (AS.UM hU) fun u4 hU=>?_;right;show⟨rfl,hq a _ ?_ ⟨N,_,⟨by walk_at "look",by walk_at "look"⟩⟩⟩;have S1:=AS.Sub.mk (C:=531) (m:=[]) h1 h2 h3;intro b o e;have nb:b≠N:=ez (aR h2 e);have S2:=S1.trans (AS.Sub.set (o:= .dict ep []) hT);rw[AS.UK nb];show AS.Sub.set (o:= .dict ep2 []) hT2 b o ?_;rw[AS.UK nb];show S2 b o e
theorem EV (W:WW) {a h:Addr} {s:Str} {ep:Nat} {xs:List (AK×AV)} (ha:cK σ a) (hh:σ h=some (.dict ep xs)) (hr:ju σ ((bl xs (.s s)).getD .none)) (hq:Q ((bl xs (.s s)).getD .none) σ):aa (k+2) (.ref 474) [.ref a,.ref h,.str s] σ Q X:=by
 obtain⟨N,m,i,n⟩:=ha;show(af W qJ (z9 W) rfl zd ?_).call;show ad i n (f:=467) zk ?_;show jQ hh ?_;show mX (x:= .s s) hh ?_;show EU W hr hq
theorem rP (W:WW) {a s M h n:Addr} {b:LU} {ep:Nat} {xs:List (AK×AV)} (ha:cK σ a) (hs:At σ s M 394 [(.head,.ref h),(.octets,.bytes b)]) (hh:σ h=some (.dict ep xs)) (hg:bl xs (.s "Type")=some (.ref n)) (hn:bv σ n "XRef") (hq:Q (.bool true) σ):
 aa (k+3) (.ref 1483) [.ref a,.ref s] σ Q X:=by
 have hr:ju σ ((bl xs (.s "Type")).getD .none):=by rw[hg];show JD hn
 show(af W iZ (rI W) rfl zd ?_).call;show m6 W (vS hs.i hs.n zk) (b:=true) zk ?_;left;obtain⟨N,m,ai,an⟩:=id ha;show ad ai an (f:=474) zk ?_;show AttrJ.of hs.i hs.n rfl zk rfl ?_;show EV W ha hh hr ?_;rw[hg];obtain⟨N2,ni,nn⟩:=id hn;show m6 W (vS ni nn zk) (b:=true) zk ?_;left;show AttrJ.of ni nn rfl zk rfl ?_;show hq
theorem DW (W:WW) {n:Int} (h:0<=n) (hq:Q (.bool true) σ):aa (k+1) (.ref 1434) [.int n] σ Q X:=by
 show(af W wt (DV W) rfl zd ?_).call;show cH W iT (b:=true) zk ?_;left;show cH W iT (b:=false) zk ?_;left;rw[yz h];show hq
theorem Cg (W:WW) {a h A F:Addr} {key:AV} {all:List AV} {Q:ax}:∀(ds Uq:List LU) (x y:Option AV) (σ:AS),cK σ a->σ A=some (.list all)->σ F=some (.list (Uq.map iv))->Uq.length+ds.length<=1000->
 (∀x y,Q .next [some (.ref a),some (.ref h),some key,some (.ref A),some (.ref F),x,y] (σ.set F (.list ((Uq++ds).map iv))))->
 A≠F->bU (rC) rD (fun σ=>σ A=some (.list all)) (k+2) Q (ds.map iv) [some (.ref a),some (.ref h),some key,some (.ref A),some (.ref F),x,y] σ:=by
 intro ds;induction ds with
 | nil=>
  intro Uq x y σ ha hA hF hl hq ne;have:=hq x y;rw[Bo,AS.set_id hF] at this;show this
 | cons d ds ih=>
  intro Uq x y σ ha hA hF hl hq ne;rw[fF] at hl;obtain⟨N,m,ai,an⟩:=id ha;show ad ai an (f:=467) zk ?_;show EU W M0 ?_;show DW W (Int.natCast_nonneg _) ?_;left;show bV hF ?_;show dx hF zm ?_;have ha':cK (σ.set F (.list (Uq.map iv++[iv d]))) a:=⟨N,m,aA ai hF nofun,aA an hF nofun⟩;have hA':=(AS.UK (σ:=σ) (a:=F) (o:= .list (Uq.map iv++[iv d])) ne).trans hA;have e1:Uq.map iv++[iv d]=(Uq++[d]).map iv:=zs;show⟨hA',ih (Uq++[d]) _ _ _ ha' hA' (by rw[AS.UJ,e1]) zu (fun x y=>?_) ne⟩;rw[AS.UL,u9];show hq x y
theorem ua (W:WW) {a h A:Addr} {s:Str} {ep:Nat} {xs:List (AK×AV)} {dss:List LU} (ha:cK σ a) (hh:σ h=some (.dict ep xs)) (hg:bl xs (.s s)=some (.ref A)) (hA:σ A=some (.list (dss.map iv))) (hl:dss.length<=1000)
 (hq:∀F,σ F=none->Q (.ref F) (σ.set F (.list (dss.map iv)))):aa (k+3) (.ref 1441) [.ref a,.ref h,.str s] σ Q X:=by
 have hr:ju σ ((bl xs (.s s)).getD .none):=by rw[hg];show JC hA
 show(af W tZ (Cc W) rfl zd ?_).call;obtain⟨N,m,ai,an⟩:=id ha;show ad ai an (f:=474) zk ?_;show EV W ha hh hr ?_;rw[hg];left;show cH W (BO hA) (b:=true) zk ?_;left;show⟨zl,?_⟩;intro F hF;have S:=AS.Sub.set (o:= .list []) hF;show eQ.of cw (S _ _ hA) ?_;show Cg W dss [] none none _ (ha.sub S) (S _ _ hA) AS.UJ (by simpa using hl) (fun x y=>?_) (ez (aR hF hA));rw[AS.UL];show hq F hF
theorem Ch (W:WW) {a h A:Addr} {ep:Nat} {xs:List (AK×AV)} (ha:cK σ a) (hh:σ h=some (.dict ep xs)) (hg:bl xs (.s "W")=some (.ref A)) (hA:σ A=some (.list [.int 1,.int 4,.int 2]))
 (hq:∀F,σ F=none->Q (.ref F) (σ.set F (.list [.int 1,.int 4,.int 2]))):aa (k+4) (.ref 1448) [.ref a,.ref h] σ Q X:=by
 show(af W t6 (Cd W) rfl zd ?_).call;show ua W (dss:=[[49],[52],[50]]) ha hh hg hA zd fun F hF=>?_;have hF':(σ.set F (.list ([[49],[52],[50]].map iv))) F=some (.list [.int 1,.int 4,.int 2]):=AS.UJ;left;show bE hF' zl ?_;left;show FM hF' ?_;left;show hq F hF
theorem AE (W:WW) {a h A:Addr} {ep:Nat} {xs:List (AK×AV)} {dss:List LU} (ha:cK σ a) (hh:σ h=some (.dict ep xs)) (hg:bl xs (.s "Index")=some (.ref A)) (hA:σ A=some (.list (dss.map iv))) (hl:dss.length<=1000) (he:dss.length%2=0)
 (hq:∀F,σ F=none->Q (.ref F) (σ.set F (.list (dss.map iv)))):aa (k+4) (.ref 1455) [.ref a,.ref h] σ Q X:=by
 show(af W rF (Az W) rfl zd ?_).call;show ua W ha hh hg hA hl fun F hF=>?_;left;show bE AS.UJ zm ?_;show⟨zd,?_⟩;show Br.neg ?_ ?_
 . rw[xg,a9,Int.fmod_eq_emod_of_nonneg _ zd];lia
 show hq F hF
theorem wx (W:WW) {a h:Addr} {ep:Nat} {xs:List (AK×AV)} (ha:cK σ a) (hh:σ h=some (.dict ep xs)) (hg:bl xs (.s "Filter")=none) (hq:∀F,σ F=none->Q (.ref F) (σ.set F (.list []))):aa (k+3) (.ref 1385) [.ref a,.ref h] σ Q X:=by
 have hr:ju σ ((bl xs (.s "Filter")).getD .none):=by rw[hg];show ET
 show(af W mr (wm W) rfl zd ?_).call;obtain⟨N,m,ai,an⟩:=id ha;show ad ai an (f:=474) zk ?_;show EV W ha hh hr ?_;rw[hg];left;show⟨zl,?_⟩;show hq
theorem wy (W:WW) {a h:Addr} {ep:Nat} {xs:List (AK×AV)} (ha:cK σ a) (hh:σ h=some (.dict ep xs)) (hg:bl xs (.s "DecodeParms")=none) (hq:∀F,σ F=none->Q (.ref F) (σ.set F (.list []))):aa (k+3) (.ref 1390) [.ref a,.ref h,.int 0] σ Q X:=by
 have hr:ju σ ((bl xs (.s "DecodeParms")).getD .none):=by rw[hg];show ET
 show aa.forget ?_;show(sv W iw (wq W) rfl zd ?_).call;obtain⟨N,m,ai,an⟩:=id ha;show ad ai an (f:=474) zk ?_;show EV W ha hh hr ?_;rw[hg];left;show jL fun R hR=>?_;have S:=AS.Sub.set (o:= .rng 0 0 1) hR;show iO.of (dM (a:=((0:Nat):Int)) (b:=((0:Nat):Int)) (BR zd zd) (by rw[tP];lia)) AS.UJ (by rw[q9];simp) ?_;rw[q9];intro F hF;show⟨_,S.up,hq F (S.none hF)⟩
theorem F0 (W:WW) {a s M h:Addr} {b:LU} {ep:Nat} {xs:List (AK×AV)} (ha:cK σ a) (hs:At σ s M 394 [(.head,.ref h),(.octets,.bytes b)]) (hh:σ h=some (.dict ep xs)) (h1:bl xs (.s "Filter")=none) (h2:bl xs (.s "DecodeParms")=none) (hq:Q (.bytes b) σ):
 aa (k+4) (.ref 1418) [.ref a,.ref s] σ Q X:=by
 show aa.forget ?_;show(af W y3 (FY W) rfl zd ?_).call;show AttrJ.of hs.i hs.n rfl zk rfl ?_;show wx W ha hh h1 fun F hF=>?_;have S:=AS.Sub.set (o:= .list []) hF;have hs':=hs.sub S;show AttrJ.of hs'.i hs'.n rfl zk rfl ?_;show AttrJ.of hs'.i hs'.n rfl zk rfl ?_;show bE AS.UJ zd ?_;show wy W (ha.sub S) (S _ _ hh) h2 fun G hG=>?_;have S2:=AS.Sub.set (o:= .list []) hG;show DO.of (S2 _ _ AS.UJ) AS.UJ ?_;show⟨σ,S.trans S2,hq⟩
noncomputable def my (n:Nat) (bs:LU):Nat:=bs.foldl (fun n c=>256*n+c.toNat) n
theorem DX (W:WW) {o:AV} {Q:ax}:∀(bs:LU) (n:Nat) (x:Option AV),(∀x,Q .next [some o,some (.int (my n bs)),x] σ)->bU (Ca) Cb (fun _=>True) k Q (bs.map fun c=> .int c.toNat) [some o,some (.int n),x] σ:=by
 intro bs;induction bs with
 | nil=>intro n x h;show h x
 | cons d bs ih=>
  intro n x h;show⟨IntMulOk.of_left zd,trivial,?_⟩;have en:((256:Int)*(n:Int)+(d.toNat:Int))=((256*n+d.toNat:Nat):Int):=zo;rw[en];show ih _ _ h
theorem AF (W:WW) {bs:LU} (hq:Q (.int (my 0 bs)) σ):aa (k+1) (.ref 1427) [.bytes bs] σ Q X:=by
 show(af W ES (JB W) rfl zd ?_).call;show eQ.of kg trivial ?_;show DX W bs 0 none fun x=>?_;show hq
noncomputable def F1:Nat->Str
 | 0=>"free"
 | 1=>"used"
 | _=>"packed"
theorem Ci (W:WW):tu Ω σ 1419 (.tup [.str "free",.str "used",.str "packed"]):= .inr ⟨GO,W.inK 1419 _ zk,_,_,rfl,rfl⟩
theorem rQ {B:LU} {j:Int} {b:Nat} (hj:j=b) (hz:B.length<=1000000) (hq:Q (.bytes (B.take b)) σ):ik k (.bytes B) .none (.int j) .none σ Q X:=by
 rw[hj];show sy hz hq
noncomputable abbrev QF (c:UInt8) (r:LU):List (Attr×AV):=DN (F1 c.toNat) (my 0 (r.take 4)) (my 0 (r.drop 4))
theorem Cj (W:WW) {Wd:Addr} {c:UInt8} {r:LU} (hW:σ Wd=some (.list [.int 1,.int 4,.int 2])) (hc:c.toNat<3) (hl:r.length=6) (hq:∀a N,σ a=none->σ N=none->a≠N->Q (.ref a) (σ.mk a N 761 (QF c r))):
 aa (k+3) (.ref 1462) [.bytes (c::r),.ref Wd] σ Q X:=by
 have hz:(c::r).length<=1000000:=by simp;lia
 show(af W t8 (Ce W) rfl zd ?_).call;show ak (i:=0) hW rfl zd ?_;left;show rQ (b:=1) rfl hz ?_;show AF W ?_;have e0:my 0 ((c::r).take 1)=c.toNat:=by simp [my]
 rw[e0];show Ds (Ci W) zd ?_;show Br.neg (uw zu) ?_;have fin:∀(s:Str) (i:Nat),c.toNat=i->([.str "free",.str "used",.str "packed"]:List AV)[i]?=some (.str s)->F1 i=s->∀P:aG,P (.str s) σ->xo (k+2) (.ref 1419) (.int c.toNat) σ P fun _ _=>False:=by
  intro s i e1 e2 e3 P hp;rw[e1];show f0 (Ci W) e2 zo hp
 have go:∀P:aG,P (.str (F1 c.toNat)) σ->xo (k+2) (.ref 1419) (.int c.toNat) σ P fun _ _=>False:=by
  intro P hp;have h3:c.toNat=0\/c.toNat=1\/c.toNat=2:=zo;rcases h3 with e | e | e
  . show fin "free" 0 e rfl rfl P (by rw[e] at hp;show hp)
  . show fin "used" 1 e rfl rfl P (by rw[e] at hp;show hp)
  . show fin "packed" 2 e rfl rfl P (by rw[e] at hp;show hp)
 show go _ ?_;show ak (i:=1) hW rfl zd ?_;show eY (a:=1) (b:=5) rfl rfl hz ?_;show AF W ?_;show ak (i:=1) hW rfl zd ?_;show cX (a:=5) rfl hz ?_;show AF W ?_;show EN W fun a N h1 h2 h3=>?_;show hq a N h1 h2 h3
structure g6 where
 nd:LU
 c:UInt8
 r:LU
noncomputable abbrev g6.row (x:g6):aY:=⟨ay 0 x.nd,F1 x.c.toNat,my 0 (x.r.take 4),my 0 (x.r.drop 4)⟩
structure g6.good (x:g6):Prop where
 n:dA x.nd
 c:x.c.toNat<3
 r:x.r.length=6
 z:ay 0 x.nd<=1000000
noncomputable def bj:List g6->LU
 | []=>[]
 | x::l=>x.c::x.r++bj l
noncomputable def cg:List g6->List LU
 | []=>[]
 | x::l=>x.nd::[49]::cg l
theorem rR {l:List g6} (h:∀x∈l,x.good):(bj l).length=7*l.length:=by
 induction l with
 | nil=>rfl
 | cons x l ih=>
  have:=(h x bJ).r;have:=ih fun y hy=>h y (du _ hy);change(x.c::x.r++bj l).length=_;simp;lia
theorem ky:∀(l m:List g6),bj (l++m)=bj l++bj m
 | [],m=>rfl
 | x::l,m=>by change x.c::x.r++bj (l++m)=_;rw[ky l m];change _=(x.c::x.r++bj l)++bj m;simp
theorem cL:∀l:List g6,(cg l).length=2*l.length
 | []=>rfl
 | x::l=>by change(cg l).length+1+1=_;rw[cL l,fF];lia
theorem rS:∀(l m:List g6),cg (l++m)=cg l++cg m
 | [],m=>rfl
 | x::l,m=>by change x.nd::[49]::cg (l++m)=_;rw[rS l m];rfl
theorem F5 {ps rs:List g6} {x:g6}:((cg (ps++x::rs)).map iv)[2*ps.length]?=some (.int (ay 0 x.nd))/\((cg (ps++x::rs)).map iv)[2*ps.length+1]?=some (.int 1):=by
 rw[rS,<-cL ps,pj,<-a9 (f:=iv) (as:=cg ps)];constructor
 . rw[List.getElem?_append_right (Nat.le_refl _),Nat.sub_self];rfl
 . rw[List.getElem?_append_right (Nat.le_succ _),show((cg ps).map iv).length+1-((cg ps).map iv).length=1 by lia];rfl
structure Eo (σ0 σ:AS) (E Kn:Addr) (l:List ER):Prop where
 e:∃ep,σ E=some (.dict ep (ag l))
 k:∃ep,σ Kn=some (.dict ep (l.map fun x=>(AK.i x.r.n,AV.bool true)))
 r:∀x∈l,cZ σ x
 ext:σ0.Sub σ
 e0:σ0 E=none
 k0:σ0 Kn=none
 ne:E≠Kn
theorem Eo.sub {σ0 σ UH:AS} {E Kn:Addr} {l:List ER} (h:Eo σ0 σ E Kn l) (S:σ.Sub UH):Eo σ0 UH E Kn l:=by
 show aw h.e fun ep e=>?_;show aw h.k fun ek k=>?_;show⟨⟨ep,S _ _ e⟩,⟨ek,S _ _ k⟩,fun x hx=>(h.r x hx).sub S,h.ext.trans S,h.e0,h.k0,h.ne⟩
theorem AS.Sub.setNew {σ0 σ:AS} {a:Addr} {x:AO} (S:σ0.Sub σ) (h:σ0 a=Option.none):σ0.Sub (σ.set a x):=fun b o e=>(AS.UK (ez (aR h e))).trans (S b o e)
theorem wz {l:List ER} {n:Nat} {f:ER->AV} (h:∀y∈l,y.r.n≠n):∀p∈(l.map fun x=>(AK.i x.r.n,f x)),p.1≠AK.i (n:Int):=fun p hp e=>by
 show ae (bp.mp hp) fun y hy hr2=>?_;subst hr2;have:=AK.i.inj e;show h y hy zo
noncomputable abbrev Ti (B:LU) (Wd Rn E Kn:Addr) (at_:Nat) (x y z:Option AV):aO:=[some (.bytes B),some (.ref Wd),some (.ref Rn),some (.ref E),some (.ref Kn),some (.int 7),some (.int at_),x,y,z]
theorem AG (W:WW) {σ0:AS} {Wd Rn E Kn O:Addr} {all:List g6} {Q:ax} (g:∀x∈all,x.good) (nd:(all.map (ay 0 ·.nd)).Nodup) (hz:all.length<=500) (hW:σ0 Wd=some (.list [.int 1,.int 4,.int 2])) (hR:σ0 Rn=some (.list ((cg all).map iv))):
 ∀(rs ps:List g6) (l:List ER) (x y z:Option AV) (σ:AS),ps++rs=all->Eo σ0 σ E Kn l->l.map (·.r)=ps.map (·.row)->σ O=some (.rng 0 ((2*all.length:Nat):Int) 2)->
 (∀x y z UH l',Eo σ0 UH E Kn l'->l'.map (·.r)=all.map (·.row)->Q .next (Ti (bj all) Wd Rn E Kn (7*all.length) x y z) UH)->
 bU (oR) oU (fun σ=>σ O=some (.rng 0 ((2*all.length:Nat):Int) 2)) (k+4) Q ((List.range' ps.length rs.length).map fun i=> .int ((2*i:Nat):Int)) (Ti (bj all) Wd Rn E Kn (7*ps.length) x y z) σ:=by
 intro rs;induction rs with
 | nil=>
  intro ps l x y z σ e H hl hO hq;rw[Bo] at e;subst e;show hq x y z σ l H hl
 | cons a rs ih=>
  intro ps l x y z σ e H hl hO hq;have hlen:ps.length+(rs.length+1)=all.length:=by rw[<-e,j7,fF]
  have ga:a.good:=g a (by rw[<-e];simp);show aL (F5 (ps:=ps) (rs:=rs) (x:=a)) fun g1 g2=>?_;rw[e] at g1 g2;have sb:(bj all).length=7*all.length:=rR g;have hR':=H.ext _ _ hR;rw[fF,List.range'_succ,dI];show ak (i:=2*ps.length+1) hR' g2 zo ?_;show⟨IntMulOk.of_left zd,?_⟩;show am zo ?_;show Br.neg (uw (by rw[sb];lia)) ?_;left;show ak (i:=2*ps.length) hR' g1 zo ?_;show ak (i:=2*ps.length) hR' g1 zo ?_;show ak (i:=2*ps.length+1) hR' g2 zo ?_;show sA fun R2 hR2=>?_;rw[show((ay 0 a.nd:Int)+1)=((ay 0 a.nd+1:Nat):Int) from rfl];have S:=AS.Sub.set (o:= .rng (ay 0 a.nd) ((ay 0 a.nd+1:Nat):Int) 1) hR2;have H1:=H.sub S;show eQ.of (dM (BR (by have:=ga.z;lia) (by have:=ga.z;lia)) (by rw[tP];lia)) AS.UJ ?_;rw[q9,show ay 0 a.nd+1-ay 0 a.nd=1 by lia];have nd1:∀y∈l,y.r.n≠ay 0 a.nd:=fun y hy e2=>by
   have:y.r∈ps.map (·.row):=by rw[<-hl];show bp.mpr ⟨y,hy,rfl⟩
   show ae (bp.mp this) fun q hq e3=>?_;rw[<-e,pj,dI,Ey] at nd;show nd.2.2 (ay 0 q.nd) (bp.mpr ⟨q,hq,rfl⟩) (ay 0 a.nd) bJ (by rw[<-e2,<-e3])
  have ll:l.length<=500:=by
   have:=congrArg List.length hl;rw[a9,a9] at this;lia
  show aw H1.k fun ek hk=>?_;show qs (x:= .i (ay 0 a.nd:Nat)) hk ?_;rw[sQ (wz nd1)];left;show bM (x:= .i (ay 0 a.nd:Nat)) hk zm fun ep'=>?_;rw[fe (wz nd1)];have X2:=H1.ext.setNew (x:= .dict ep' ((l.map fun x=>(AK.i x.r.n,AV.bool true))++[(AK.i (ay 0 a.nd:Nat),AV.bool true)])) H1.k0;have es:bj all=bj ps++(a.c::a.r++bj rs):=by rw[<-e,ky];rfl
  have lp:(bj ps).length=7*ps.length:=rR fun x hx=>g x (by rw[<-e];simp [hx]);have sl:((bj all).drop (7*ps.length)).take (7*ps.length+7-7*ps.length)=a.c::a.r:=by
   rw[es,<-lp,Mr,show(bj ps).length+7-(bj ps).length=7 by lia,List.cons_append,List.take_succ_cons]
   congr 1
   rw[List.take_append_of_le_length (by rw[ga.r];decide),List.take_of_length_le (by rw[ga.r];decide)]
  show eY (a:=7*ps.length) (b:=7*ps.length+7) zo zo zo ?_;rw[sl];show Cj W (X2 _ _ hW) ga.c ga.r fun a1 N1 h1 h2 h3=>?_;have S3:=AS.Sub.mk (C:=761) (m:=QF a.c a.r) h1 h2 h3;show aw H1.e fun ee he=>?_;have he2:=(AS.UK (o:= .dict ep' ((l.map fun x=>(AK.i x.r.n,AV.bool true))++[(AK.i (ay 0 a.nd:Nat),AV.bool true)])) H1.ne).trans he;left;show bM (x:= .i (ay 0 a.nd:Nat)) (S3 _ _ he2) zu fun ep2=>?_;rw[fe (wz nd1)];have H4:Eo σ0 _ E Kn (l++[⟨a1,a.row⟩]):=⟨⟨ep2,by rw[AS.UJ]⟩,⟨ep',(AS.UK (ez H1.ne)).trans (S3 _ _ (by rw[AS.UJ];simp))⟩,fun y hy=>by
   rcases eL.mp hy with hy | hy
   . show(((H1.r y hy).set hk (fun _=>nofun) (fun _ _ _=>nofun)).sub S3).set (S3 _ _ he2) (fun _=>nofun) (fun _ _ _=>nofun)
   . rw[dK] at hy;rw[hy];show cZ.set ⟨N1,At.new h3⟩ (S3 _ _ he2) (fun _=>nofun) (fun _ _ _=>nofun),(X2.trans S3).setNew H1.e0,H1.e0,H1.k0,H1.ne⟩
  have eE:ag (l++[(⟨a1,a.row⟩:ER)])=ag l++[(AK.i (ay 0 a.nd:Nat),AV.ref a1)]:=zs;rw[eE] at H4;have hO1:=S _ _ hO;have alv:∀{Z:Addr} {q1 q2 q3:Int},(σ.set R2 (.rng (ay 0 a.nd) ((ay 0 a.nd+1:Nat):Int) 1)) Z=some (.rng q1 q2 q3)->_:=fun {Z q1 q2 q3} hZ=>aA (x:= .dict ep2 (ag l++[(AK.i (ay 0 a.nd:Nat),AV.ref a1)])) (S3 _ _ (aA (x:= .dict ep' ((l.map fun x=>(AK.i x.r.n,AV.bool true))++[(AK.i (ay 0 a.nd:Nat),AV.bool true)])) hZ hk nofun)) (S3 _ _ he2) nofun
  show⟨alv AS.UJ,?_⟩;show⟨alv hO1,?_⟩;have:=ih (ps++[a]) (l++[⟨a1,a.row⟩]) (some (.int ((2*ps.length:Nat):Int))) (some (.int (ay 0 a.nd))) (some (.ref a1)) _ (by simpa using e) H4 (by simp [hl]) (alv hO1) hq;rw[show(ps++[a]).length=ps.length+1 by simp] at this;rw[show((7*ps.length:Nat):Int)+7=((7*(ps.length+1):Nat):Int) by lia];show this
theorem AH (W:WW) {Wd Rn:Addr} {all:List g6} (g:∀x∈all,x.good) (nd:(all.map (ay 0 ·.nd)).Nodup) (hz:all.length<=500) (hW:σ Wd=some (.list [.int 1,.int 4,.int 2])) (hR:σ Rn=some (.list ((cg all).map iv)))
 (hq:∀E UH,σ.Sub UH->di UH E (all.map (·.row))->Q (.ref E) UH):aa (k+5) (.ref 1469) [.bytes (bj all),.ref Wd,.ref Rn] σ Q X:=by
 show(af W rG (AA W) rfl zd ?_).call;intro E ep hE;intro Kn ek hK;show aL (AS.UM hK) fun k1 hK0=>?_;have S1:=AS.Sub.set (o:= .dict ep []) hE;have S2:=S1.trans (AS.Sub.set (o:= .dict ek []) hK);have hW2:=S2 _ _ hW;have hR2:=S2 _ _ hR;show ak (i:=0) hW2 rfl zd ?_;show ak (i:=1) hW2 rfl zd ?_;show ak (i:=2) hW2 rfl zd ?_;show bE hR2 (by rw[a9,cL];lia) ?_;rw[a9,cL];show yP (a:=0) (b:=((2*all.length:Nat):Int)) (c:=2) zd (PyProof.noPylong_small zd) fun O hO=>?_;have S3:=AS.Sub.set (o:= .rng 0 ((2*all.length:Nat):Int) 2) hO;show eQ.of (dM (QC zo) (by rw[EK];lia)) AS.UJ ?_;rw[L6,List.range_eq_range'];have H:Eo σ _ E Kn []:=⟨⟨ep,S3 _ _ ((AS.UK (ez k1)).trans AS.UJ)⟩,⟨ek,S3 _ _ AS.UJ⟩,aF,S2.trans S3,hE,hK0,ez k1⟩;show AG W g nd hz hW hR all [] [] none none none _ rfl H rfl AS.UJ fun x y z UH l' H' e'=>?_;show aw H'.e fun ee he=>?_;show hq E UH H'.ext ⟨ee,l',he,H'.r,e'⟩
noncomputable def QG:List Str:=["Length","Filter","DecodeParms","W","Index","Type"]
noncomputable def lm (s:Str):Bool:=!(QG.any (· ==s))
theorem JF (W:WW):tu Ω σ 1420 (.tup (QG.map .str)):= .inr ⟨GP,W.inK 1420 _ zk,_,_,rfl,rfl⟩
noncomputable abbrev kB (l:List (NV×PV)):List (NV×PV):=l.filter fun y=>lm y.1.s
theorem HJ {l:List (NV×PV)} {s:Str} (h:s∉l.map (·.1.s)):∀p∈cx ((kB l).map fun y:NV×PV=>y.1),p.1≠AK.s s:=fun p hp e=>by
 show ae (bp.mp hp) fun z hz hr2=>?_;subst hr2;show ae (bp.mp hz) fun y hy hr2=>?_;subst hr2;have e2:y.1.s=s:=AK.s.inj e;show h (bp.mpr ⟨y,(List.mem_filter.mp hy).1,e2⟩)
theorem AI (W:WW) {h F:Addr} {ep:Nat} {all:List (NV×PV)} {Q:ax} (nd:(all.map (·.1.s)).Nodup) (hz:all.length<=1000) (ne:h≠F):∀(rs ps:List (NV×PV)) (ef:Nat) (x:Option AV) (σ:AS),ps++rs=all->σ h=some (.dict ep (cx (all.map fun y:NV×PV=>y.1)))->
 σ F=some (.dict ef (cx ((kB ps).map fun y:NV×PV=>y.1)))->(∀x ef',Q .next [some (.ref h),some (.ref F),x] (σ.set F (.dict ef' (cx ((kB all).map fun y:NV×PV=>y.1)))))->
 bU (oV) oW (fun σ=>σ h=some (.dict ep (cx (all.map fun y:NV×PV=>y.1)))) k Q (rs.map fun y=> .str y.1.s) [some (.ref h),some (.ref F),x] σ:=by
 intro rs;induction rs with
 | nil=>
  intro ps ef x σ e hh hF hq;rw[Bo] at e;subst e;have:=hq x ef;rw[AS.set_id hF] at this;show this
 | cons y rs ih=>
  intro ps ef x σ e hh hF hq;have hm:y∈all:=by rw[<-e];simp
  have hn:y.1.s∉ps.map (·.1.s):=fun hy=>by
   rw[<-e,pj,dI,Ey] at nd;show nd.2.2 _ hy _ bJ rfl
  have lp:ps.length+(rs.length+1)=all.length:=by rw[<-e,j7,fF]
  show ot (JF W) ?_;show Br.mk (fun hk=>?_) (fun hk=>?_)
  . have hg:bl (cx (all.map fun y:NV×PV=>y.1)) (.s y.1.s)=some y.1.v:=mc (pN (by rw[bq];show nd)) (bp.mpr ⟨y.1,bp.mpr ⟨y,hm,rfl⟩,rfl⟩);show a8 (x:= .s y.1.s) hh hg ?_;show bM (x:= .s y.1.s) hF (by have:(kB ps).length<=ps.length:=List.length_filter_le _ _;simp;lia) fun ef'=>?_;rw[fe (HJ hn)];have e1:cx ((kB ps).map fun y:NV×PV=>y.1)++[(AK.s y.1.s,y.1.v)]=cx ((kB (ps++[y])).map fun y:NV×PV=>y.1):=by
     have hk':lm y.1.s=true:=hk;simp [kB,List.filter_append,hk']
    rw[e1];have hh':=(AS.UK (σ:=σ) (a:=F) (o:= .dict ef' (cx ((kB (ps++[y])).map fun y:NV×PV=>y.1))) ne).trans hh;show⟨hh',ih (ps++[y]) ef' _ _ (by simpa using e) hh' AS.UJ fun x ef2=>?_⟩;rw[AS.UL];show hq x ef2
  . have e1:kB ps=kB (ps++[y]):=by
     have hk':lm y.1.s=false:=hk;simp [kB,List.filter_append,hk']
    rw[e1] at hF;show⟨hh,ih (ps++[y]) ef _ _ (by simpa using e) hh hF hq⟩
theorem AJ (W:WW) {h:Addr} {ep:Nat} {all:List (NV×PV)} (nd:(all.map (·.1.s)).Nodup) (hz:all.length<=1000) (hh:σ h=some (.dict ep (cx (all.map fun y:NV×PV=>y.1))))
 (hq:∀F ef,σ F=none->Q (.ref F) (σ.set F (.dict ef (cx ((kB all).map fun y:NV×PV=>y.1))))):aa (k+1) (.ref 1476) [.ref h] σ Q X:=by
 show(af W rH (AB W) rfl zd ?_).call;intro F ef hF;have S:=AS.Sub.set (o:= .dict ef []) hF;show eQ.of cQ (S _ _ hh) ?_;have ek:((cx (all.map fun y:NV×PV=>y.1)).map fun p=>p.1.av)=all.map fun y=>AV.str y.1.s:=by rw[bq,bq];rfl
 rw[ek];show AI W nd hz (ez (aR hF hh)) all [] ef none _ rfl (S _ _ hh) AS.UJ fun x ef'=>?_;rw[AS.UL];show hq F ef' hF
structure EW (kv:List (Str×PV)) (all:List g6):Prop where
 nd:(kv.map (·.1)).Nodup
 len:kv.length<=49
 ty:∃r,bd r="XRef"/\(("Type":Str),PV.name r)∈kv
 w:(("W":Str),PV.arr [[49],[52],[50]])∈kv
 idx:(("Index":Str),PV.arr (cg all))∈kv
 nf:∀y∈kv,y.1≠"Filter"
 np:∀y∈kv,y.1≠"DecodeParms"
theorem HK {l:List (NV×PV)}:(kB l).map (fun y=>(y.1.s,y.2))=(l.map fun y=>(y.1.s,y.2)).filter fun y=>lm y.1:=by
 induction l with
 | nil=>rfl
 | cons y l ih=>
  simp only [kB,Mp,dI] at ih⊢;split<;>simp_all
theorem nS (W:WW) {a s M h:Addr} {all:List g6} {kv:List (Str×PV)} (ha:cK σ a) (hs:At σ s M 394 [(.head,.ref h),(.octets,.bytes (bj all))]) (hh:dj σ h kv) (ck:EW kv all)
 (g:∀x∈all,x.good) (nd:(all.map (ay 0 ·.nd)).Nodup) (hz:all.length<=499) (hq:∀T E F UH,σ.Sub UH->UH T=some (.tup [.ref E,.ref F])->di UH E (all.map (·.row))->dj UH F (kv.filter fun y=>lm y.1)->Q (.ref T) UH):
 aa (k+6) (.ref 1490) [.ref a,.ref s] σ Q X:=by
 show aH hh fun ep done h1 h2 h3=>?_;show ae ck.ty fun r tr t1=>?_;show ae (jX h2 h3 ck.nd t1) fun v1 t2 t3=>?_;show ae t3 fun tn hr1 t4=>?_;subst hr1;rw[tr] at t4;show ae (jX h2 h3 ck.nd ck.w) fun v2 w2 w3=>?_;show ae w3 fun wa hr1 w4=>?_;subst hr1;show ae (jX h2 h3 ck.nd ck.idx) fun v3 i2 i3=>?_;show ae i3 fun ia hr1 i4=>?_;subst hr1;have nf:=sV h3 ck.nf;have np:=sV h3 ck.np;have ld:done.length<=49:=by have:=congrArg List.length h3;rw[a9] at this;have:=ck.len;lia
 have ndd:(done.map (·.1.s)).Nodup:=by have:=ck.nd;rw[<-h3,bq] at this;show this
 show(af W gO (nR W) rfl zd ?_).call;show rP W ha hs h1 t2 t4 ?_;left;show AttrJ.of hs.i hs.n rfl zk rfl ?_;show Ch W ha h1 w2 w4 fun Wd hWd=>?_;have S1:=AS.Sub.set (o:= .list [.int 1,.int 4,.int 2]) hWd;have hs1:=hs.sub S1;show AttrJ.of hs1.i hs1.n rfl zk rfl ?_;show AE W (ha.sub S1) (S1 _ _ h1) i2 (S1 _ _ i4) (by rw[cL];lia) (by rw[cL];lia) fun Rn hRn=>?_;have S2:=S1.trans (AS.Sub.set (o:= .list ((cg all).map iv)) hRn);have hW2:=AS.Sub.set (o:= .list ((cg all).map iv)) hRn _ _ (AS.UJ (σ:=σ) (a:=Wd) (o:= .list [.int 1,.int 4,.int 2]));have hs2:=hs.sub S2;show F0 W (ha.sub S2) hs2 (S2 _ _ h1) nf np ?_;show AH W g nd zo hW2 AS.UJ fun E UH S3 hE=>?_;have S4:=S2.trans S3;have hs4:=hs.sub S4;show AttrJ.of hs4.i hs4.n rfl zk rfl ?_;show AJ W ndd zo (S4 _ _ h1) fun F ef hF=>?_;have S5:=AS.Sub.set (o:= .dict ef (cx ((kB done).map fun y:NV×PV=>y.1))) hF;have trl:dj (UH.set F (.dict ef (cx ((kB done).map fun y:NV×PV=>y.1)))) F (kv.filter fun y=>lm y.1):=
  ⟨ef,kB done,AS.UJ,fun y hy=>((h2.sub S4).sub S5) y (List.mem_filter.mp hy).1,by rw[HK,h3]⟩
 show⟨zl,?_⟩;intro T hT;have S6:=AS.Sub.set (o:= .tup [.ref E,.ref F]) hT;show hq T E F _ ((S4.trans S5).trans S6) AS.UJ ((hE.sub S5).sub S6) (trl.sub S6)
structure f7 (D:LU) (p:Nat) (Uu:List cU) (all:List g6):Prop where
 st:∃nd gd,rO D p nd gd Uu (bj all)
 ck:EW (cP Uu) all
 g:∀x∈all,x.good
 nd:(all.map (ay 0 ·.nd)).Nodup
 z:all.length<=499
theorem rO.lt {D body nd gd:LU} {p:Nat} {Uu:List cU} (h:rO D p nd gd Uu body):p<D.length:=by
 show aH h.ex fun ws R _ _ e=>?_;have:=congrArg List.length e;rw[Fl] at this;simp at this;lia
theorem jY (W:WW) {D:LU} {p:Nat} {Uu:List cU} {all:List g6} (hz:D.length<=1000000) (h:f7 D p Uu all)
 (hq:∀S UH,σ.Sub UH->gR UH S p (all.map (·.row)) ((cP Uu).filter fun y=>lm y.1)->Q (.ref S) UH):aa (k+8) (.ref 1608) [.bytes D,.int p,.ref 1490] σ Q X:=by
 show sn h.st fun nd gd st=>?_;show(af W jT (sS W) rfl zd ?_).call;show gm W (.inl rfl) hz fun a N ha hN hne=>?_;have C:=cV.new (σ:=σ) (p:=p) hne (Nat.le_of_lt st.lt) hz;show uW W C st fun T s M d UH B hT hs hd=>?_;have S:=AS.But.toSub hN ha hne B;show f0 (i:=2) (.inl hT) rfl zd ?_;walk_at "w";show⟨by first | show trivial | (change keepIn _ _=true;kernel_rfl),?_⟩;show JE W fun sh σ2 S2 hsh=>?_;show nS W hsh (hs.sub S2) (hd.sub S2) h.ck h.g h.nd h.z fun T2 E F σ3 S3 hT2 hE hF=>?_;show aD hT2 ⟨rfl,?_⟩;show m9 W ⟨rfl,rfl,rfl⟩ fun x M2 h1 h2 h3=>?_;have S4:=AS.Sub.mk (C:=1597) (m:=[(.at,.int p),(.entries,.ref E),(.trailer,.ref F)]) h1 h2 h3;show hq x _ (((S.trans S2).trans S3).trans S4) ⟨M2,E,F,At.new h3,hE.sub S4,hF.sub S4⟩
noncomputable def pY (l:List aY) (x:aY):List aY:=if l.any (fun y=>y.n==x.n) then l.map (fun y=>if y.n=x.n then x else y) else l++[x]
noncomputable def iI (l:List ER) (x:ER):List ER:=if l.any (fun y=>y.r.n==x.r.n) then l.map (fun y=>if y.r.n=x.r.n then x else y) else l++[x]
theorem sW (l:List ER) (x:ER):(iI l x).map (·.r)=pY (l.map (·.r)) x.r:=by
 have e:(l.map (·.r)).any (fun y=>y.n==x.r.n)=l.any (fun y=>y.r.n==x.r.n):=by rw[List.any_map];rfl
 delta iI pY
 rw[e];split
 . rw[bq,bq];apply GG;intro y _;change(if y.r.n=x.r.n then x else y).r=if y.r.n=x.r.n then x.r else y.r;split<;>rfl
 . simp
theorem iy (l:List ER) (x:ER):ag (iI l x)=iH (ag l) (.i x.r.n) (.ref x.a):=by
 have e:(ag l).any (fun p=>decide (p.1=AK.i (x.r.n:Int)))=l.any (fun y=>y.r.n==x.r.n):=by
  rw[List.any_map]
  congr 1
  funext y;rw[Bool.eq_iff_iff];simp;lia
 delta iI iH
 rw[e];split
 . change List.map _ (List.map _ l)=List.map _ (List.map _ l);rw[bq,bq];apply GG;intro y _;change(AK.i (if y.r.n=x.r.n then x else y).r.n,AV.ref (if y.r.n=x.r.n then x else y).a)=if (AK.i (y.r.n:Int))=AK.i (x.r.n:Int) then(AK.i (y.r.n:Int),AV.ref x.a) else(AK.i (y.r.n:Int),AV.ref y.a);by_cases z:y.r.n=x.r.n
   . rw[eM z,eM (by rw[z]),z]
   . rw[dr z,dr fun q=>z (by have:=AK.i.inj q;lia)]
 . simp
theorem rT {l:List ER} {x y:ER} (h:y∈iI l x):y∈l\/y=x:=by
 delta iI at h
 split at h
 . show ae (bp.mp h) fun z hz hr2=>?_;subst hr2;by_cases e:z.r.n=x.r.n
   . rw[eM e];show .inr rfl
   . rw[dr e];show .inl hz
 . rcases eL.mp h with h | h
   . show .inl h
   . show .inr (dK.mp h)
theorem rU (l:List ER) (x:ER):(iI l x).length<=l.length+1:=by
 delta iI
 split<;>simp
theorem cR {l:List ER} (nd:(l.map (·.r.n)).Nodup) {x:ER} (h:x∈l):bl (ag l) (.i x.r.n)=some (.ref x.a):=by
 show mc ?_ (bp.mpr ⟨x,h,rfl⟩);rw[bq];have e:(l.map ((fun p:AK×AV=>p.1)∘fun y:ER=>(AK.i y.r.n,AV.ref y.a)))=(l.map (·.r.n)).map fun n:Nat=>AK.i (n:Int):=by rw[bq];rfl
 rw[e,List.Nodup,IZ];show List.Pairwise.imp (fun h e=>h (by have:=AK.i.inj e;lia)) nd
theorem na (l:List ER) (n:Nat):(bl (ag l) (.i n)).isSome=l.any fun y=>y.r.n==n:=by
 delta bl
 rw[Option.isSome_map];induction l with
 | nil=>rfl
 | cons y l ih=>
  change((_::List.map _ l).find? _).isSome=_;rw[List.find?_cons,List.any_cons];by_cases e:y.r.n=n
  . rw[show decide ((AK.i (y.r.n:Int),AV.ref y.a).1=AK.i (n:Int))=true by simp [e],show(y.r.n==n)=true by simpa using e];rfl
  . rw[show decide ((AK.i (y.r.n:Int),AV.ref y.a).1=AK.i (n:Int))=false by simp;lia,show(y.r.n==n)=false by simpa using e,Bool.false_or];show ih
noncomputable def mz (low:List aY):List aY->List aY->List aY
 | Uq,[]=>Uq
 | Uq,x::r=>mz low (if !(low.any fun y=>y.n==x.n) || x.way !="free" then pY Uq x else Uq) r
theorem Ck (W:WW) {U L F:Addr} {eu el:Nat} {up lo:List ER} {Q:ax} (nd:(up.map (·.r.n)).Nodup) (ne1:U≠F) (ne2:L≠F):∀(rs ps Uq:List ER) (ef:Nat) (x:Option AV) (σ:AS),ps++rs=up->Uq.length+rs.length<=2000->
 σ U=some (.dict eu (ag up))->σ L=some (.dict el (ag lo))->(∀x∈up,cZ σ x)->(∀x∈Uq,cZ σ x)->σ F=some (.dict ef (ag Uq))->
 (∀(x:Option AV) (ef':Nat) (Ur:List ER),Ur.map (·.r)=mz (lo.map (·.r)) (Uq.map (·.r)) (rs.map (·.r))->(∀x∈Ur,cZ (σ.set F (.dict ef' (ag Ur))) x)->Q .next [some (.ref U),some (.ref L),some (.ref F),x] (σ.set F (.dict ef' (ag Ur))))->
 bU (c7) c8 (fun σ=>σ U=some (.dict eu (ag up))) k Q (rs.map fun y=> .int y.r.n) [some (.ref U),some (.ref L),some (.ref F),x] σ:=by
 intro rs;induction rs with
 | nil=>
  intro ps Uq ef x σ e hl hU hL hu ha hF hq;have:=hq x ef Uq rfl (by rw[AS.set_id hF];show ha);rw[AS.set_id hF] at this;show this
 | cons y rs ih=>
  intro ps Uq ef x σ e hl hU hL hu ha hF hq;rw[fF] at hl;have hm:y∈up:=by rw[<-e];simp
  have gy:bl (ag up) (.i y.r.n)=some (.ref y.a):=cR nd hm;obtain⟨N,yi,yn⟩:=hu y hm;have en:(!(bl (ag lo) (.i y.r.n)).isSome)=!((lo.map (·.r)).any fun z=>z.n==y.r.n):=by rw[na,List.any_map];rfl
  have e2:ps++[y]++rs=up:=by simpa using e
  have skip:(!((lo.map (·.r)).any fun z=>z.n==y.r.n) || y.r.way !="free")=false->bU (c7) c8 (fun σ=>σ U=some (.dict eu (ag up))) k Q (rs.map fun y=> .int y.r.n) [some (.ref U),some (.ref L),some (.ref F),some (.int y.r.n)] σ:=by
   intro hb;show ih (ps++[y]) Uq ef _ σ e2 zo hU hL hu ha hF fun x ef' Ur hr he=>hq x ef' Ur ?_ he;rw[hr];change _=mz _ (if _ then _ else _) _;rw[hb];rfl
  have put:(!((lo.map (·.r)).any fun z=>z.n==y.r.n) || y.r.way !="free")=true->∀ef',(σ.set F (.dict ef' (iH (ag Uq) (.i y.r.n) (.ref y.a)))) U=some (.dict eu (ag up))/\bU (c7) c8 (fun σ=>σ U=some (.dict eu (ag up))) k Q (rs.map fun y=> .int y.r.n) [some (.ref U),some (.ref L),some (.ref F),some (.int y.r.n)] (σ.set F (.dict ef' (iH (ag Uq) (.i y.r.n) (.ref y.a)))):=by
   intro hb ef';rw[<-iy];have hU':=(AS.UK (σ:=σ) (a:=F) (o:= .dict ef' (ag (iI Uq y))) ne1).trans hU;have hL':=(AS.UK (σ:=σ) (a:=F) (o:= .dict ef' (ag (iI Uq y))) ne2).trans hL;show⟨hU',ih (ps++[y]) (iI Uq y) ef' _ _ e2 (by have:=rU Uq y;lia) hU' hL' (fun z hz=>(hu z hz).set hF (fun _=>nofun) (fun _ _ _=>nofun)) (fun z hz=>?_) AS.UJ fun x ef2 Ur hr he=>?_⟩
   . rcases rT hz with hz | rfl
     . show(ha z hz).set hF (fun _=>nofun) (fun _ _ _=>nofun)
     . show(hu _ hm).set hF (fun _=>nofun) (fun _ _ _=>nofun)
   . rw[AS.UL] at he⊢;show hq x ef2 Ur ?_ he;rw[hr,sW];change _=mz _ (if _ then _ else _) _;rw[hb];rfl
  rw[dI];show py (x:= .i y.r.n) hL ?_;rw[en];cases hb:((lo.map (·.r)).any fun z=>z.n==y.r.n) with
  | false=>
   rw[hb] at put;left;show a8 (x:= .i y.r.n) hU gy ?_;show bM (x:= .i y.r.n) hF zm fun ef'=>?_;show put rfl ef'
  | true=>
   rw[hb] at put skip;left;show a8 (x:= .i y.r.n) hU gy ?_;show AttrJ.of yi yn rfl zk rfl ?_;show Br.mk (fun hw=>?_) (fun hw=>?_)
   . show a8 (x:= .i y.r.n) hU gy ?_;show bM (x:= .i y.r.n) hF zu fun ef'=>?_;show put hw ef'
   . show⟨hU,skip hw⟩
theorem sX (W:WW) {U L:Addr} {ur lr:List aY} (hU:di σ U ur) (hL:di σ L lr) (nd:(ur.map (·.n)).Nodup) (hz:ur.length+lr.length<=2000)
 (hq:∀F UH,σ.Sub UH->di UH F (mz lr lr ur)->Q (.ref F) UH):aa (k+1) (.ref 1622) [.ref U,.ref L] σ Q X:=by
 show aH hU fun eu up u1 u2 hr4=>?_;subst hr4;show aH hL fun el lo l1 l2 hr4=>?_;subst hr4;rw[a9,a9] at hz;rw[bq] at nd;show(af W jU (sT W) rfl zd ?_).call;show qC l1 zm fun F ep hF=>?_;have S:=AS.Sub.set (o:= .dict ep (ag lo)) hF;show eQ.of cQ (S _ _ u1) ?_;have ek:((ag up).map fun p=>p.1.av)=up.map fun y=>AV.int y.r.n:=by rw[bq];rfl
 rw[ek];show Ck W nd (ez (aR hF u1)) (ez (aR hF l1)) up [] lo ep none _ rfl zo (S _ _ u1) (S _ _ l1) (fun x hx=>(u2 x hx).sub S) (fun x hx=>(l2 x hx).sub S) AS.UJ fun x ef' Ur hr he=>?_;rw[AS.UL] at he⊢;show hq F _ (AS.Sub.set hF) ⟨ef',Ur,AS.UJ,he,hr⟩
noncomputable def cm {α:Type}:Sem α->Prop
 | .pure _=>True
 | .raise _=>True
 | .unsupported _=>True
 | .finish _=>True
 | .rule _ k=>cm (k ())
 | .at _ k=>cm (k ())
 | .load _ _ k=>∀o,cm (k o)
 | .update _ _ f k=>(∀o,(f o).dict=o.dict/\(f o).isFreed=o.isFreed)/\cm (k ())
 | .alloc _ k=>∀a,cm (k a)
 | .loadIfAlive _ k=>∀o,cm (k o)
 | .point _ k=>cm (k ())
 | .fresh k=>∀t,cm (k t)
 | .ask k=>∀x,cm (k x)
 | .handled _ k=>∀x,cm (k x)
 | .stack k=>∀x,cm (k x)
 | _=>False
theorem cm.bind {α β:Type} {m:Sem α} {f:α->Sem β} (hm:cm m) (hf:∀a,cm (f a)):cm (m>>=f):=by
 change cm (Sem.bind m f);induction m with
 | pure a=>show hf a
 | raise _=>trivial
 | unsupported _=>trivial
 | finish _=>trivial
 | rule _ k ih=>show ih () hm
 | «at» _ k ih=>show ih () hm
 | load _ _ k ih=>show fun o=>ih o (hm o)
 | update _ _ g k ih=>show⟨hm.1,ih () hm.2⟩
 | alloc _ k ih=>show fun o=>ih o (hm o)
 | loadIfAlive _ k ih=>show fun o=>ih o (hm o)
 | point _ k ih=>show ih () hm
 | fresh k ih=>show fun o=>ih o (hm o)
 | ask k ih=>show fun o=>ih o (hm o)
 | handled _ k ih=>show fun o=>ih o (hm o)
 | stack k ih=>show fun o=>ih o (hm o)
 | _=>show hm.elim
noncomputable def nc (e:Addr) (d:Option Addr) (s:Shared):Prop:=∃o,s.heap.get? e=some o/\o.dict=d
theorem JG {M:Model} {Γ:Ctx} {e:Addr} {d:Option Addr} {α:Type} (t:Sem α):∀(Q:α->Pos->Shared->Prop) (E:Value->Pos->Shared->Prop) (p:Pos) (s:Shared),cm t->nc e d s->Sem.wp M Γ t Q E p s->
 Sem.wp M Γ t (fun a p' s'=>Q a p' s'/\nc e d s') (fun x p' s'=>E x p' s'/\nc e d s') p s:=by
 induction t with
 | pure a=>intro Q E p s _ hd h;show⟨h,hd⟩
 | raise _=>intro Q E p s _ hd h;show⟨h,hd⟩
 | unsupported _=>intro Q E p s _ hd h;show h
 | finish _=>intro Q E p s _ hd h;show h
 | rule _ k ih=>intro Q E p s ht hd h;show ih () Q E p s ht hd h
 | «at» _ k ih=>intro Q E p s ht hd h;show ih () Q E _ s ht hd h
 | load a _ k ih=>intro Q E p s ht hd ⟨o,ho,h⟩;show⟨o,ho,ih o Q E p s (ht o) hd h⟩
 | update a _ f k ih=>
  intro Q E p s ht hd ⟨h1,h2⟩;show⟨h1,ih () Q E p _ ht.2 ?_ h2⟩;show ae hd fun o ho hod=>?_;by_cases z:a=e
  . subst z;have hf:o.isFreed=false:=(Heap.get?_some_iff.mp ho).2;show⟨f o,Heap.get?_update_self _ ho (by rw[(ht.1 o).2];show hf),by rw[(ht.1 o).1];show hod⟩
  . show⟨o,by rw[Heap.get?_update_other _ _ z];show ho,hod⟩
 | alloc ob k ih=>
  intro Q E p s ht hd h;show ae hd fun o ho hod=>?_;show ih _ Q E p _ (ht _) ⟨o,qo _ ho,hod⟩ h
 | loadIfAlive a k ih=>intro Q E p s ht hd h;show ih _ Q E p s (ht _) hd h
 | point _ k ih=>intro Q E p s ht hd h;show ih () Q E p s ht hd h
 | fresh k ih=>intro Q E p s ht hd h;show ih _ Q E p _ (ht _) hd h
 | ask k ih=>intro Q E p s ht hd h;show ih _ Q E p s (ht _) hd h
 | handled _ k ih=>intro Q E p s ht hd h;show ih _ Q E p s (ht _) hd h
 | stack k ih=>intro Q E p s ht hd h;show ih _ Q E p s (ht _) hd h
 | _=>intro Q E p s ht hd h;show ht.elim
theorem pZ {M:Model} {A:Around} {e:Addr} {d:Option Addr} {α:Type} {t:Sem α} {Q:α->Shared->Prop} {E:Value->Shared->Prop} {s:Shared} (T:cm t) (hd:nc e d s) (h:wpAny M A t Q E s):
 wpAny M A t (fun a s'=>Q a s'/\nc e d s') (fun x s'=>E x s'/\nc e d s') s:=fun Γ p hΓ=>JG t _ _ p s T hd (h Γ p hΓ)
theorem ft {α:Type} {c:Prop} [Decidable c] {x y:Sem α} (h1:cm x) (h2:cm y):cm (if c then x else y):=by split<;>assumption
theorem yd (v:Value):cm (fieldsOf v):=by
 delta fieldsOf
 cases v with
 | ref a=>
  intro o;change cm (match o.data with | .fields vs=>(pure vs:Sem _) | _=>unsupported _);cases o.data<;>trivial
 | _=>trivial
theorem kC (v:Value) (i:Nat):cm (field v i):=by
 delta field
 show(yd v).bind fun vs=>?_;cases vs[i]?<;>trivial
theorem wA (f:Array Value->Array Value) (o:Obj):(Obj.mapFields f o).dict=o.dict/\(Obj.mapFields f o).isFreed=o.isFreed:=by
 obtain⟨c,d,dt,sl⟩:=o;cases dt<;>show⟨rfl,rfl⟩
theorem sY (a:Addr) (i:Nat) (x:Value):cm (updateField a i x):=by
 delta updateField
 intro o;change cm (match o.data with | .fields vs=>(if i<vs.size then update a (Obj.mapFields (·.setIfInBounds i x)) else unsupported _:Sem Unit) | _=>unsupported _);cases o.data<;>first | trivial | show ft ⟨fun o=>wA _ o,trivial⟩ trivial
theorem jv (v:Value) (i:Nat) (x:Value):cm (setField v i x):=by
 delta setField
 cases v with
 | ref a=>show sY a i x
 | _=>trivial
theorem iz (e:Value) (f:Option Addr):cm (setFlight e f):=by
 delta setFlight
 show(kC e 1).bind fun tb=>ft (jv _ _ _) trivial
theorem Cm (env:Env) (l:List Env):cm (behindIsImport env l):=by
 delta behindIsImport
 show ft trivial (ft trivial ((kC _ _).bind fun _=>trivial))
theorem Cn:cm underTheClaimsCaller:=fun _=>trivial
theorem ye (env:Env) (b:Bool) (l:List Env):cm (keptBack env b l):=by
 delta keptBack
 cases l with
 | nil=>show ft trivial (Cn.bind fun _=>trivial)
 | cons _ _=>trivial
theorem wB:∀l:List Env,cm (readyFrames l)
 | []=>trivial
 | env::l=>by
  unfold readyFrames;cases env.frame with
  | none=>trivial
  | some f=>
   intro o;show ft trivial ((Cm env l).bind fun b=>(ye env b l).bind fun v=>?_);show⟨fun o=>by obtain⟨c,d,dt,sl⟩:=o;cases dt<;>show⟨rfl,rfl⟩,wB l⟩
theorem AL (env:Env):cm (PySem.frameOf env):=by
 delta PySem.frameOf
 intro st;change cm (frameObject _>>=_);show cm.bind ?_ fun r=>by cases r<;>trivial
 delta frameObject
 split
 . trivial
 . show(wB _).bind fun _=>trivial
theorem rV (f:Addr) (b:Bool):cm (entryPlaceOf f b):=by
 delta entryPlaceOf
 show cm.bind (fun _=>trivial) fun acts=>?_;split<;>trivial
theorem yf (a b c d e:Value) (pl:List Value):cm (EntryCells.newEntry a b c d e pl):=by
 delta EntryCells.newEntry newFields newObj newObjAsIs
 dsimp only;show ft trivial fun a=>trivial
theorem mA (e:Value) (env:Env):cm (noteFrame e env):=by
 delta noteFrame
 cases env.frame with
 | none=>trivial
 | some f=>
  show(kC e 1).bind fun head=>?_;have last:∀f:Addr,cm (do setField e 1 (<-EntryCells.newEntry head (<-PySem.frameOf env) .none (rawInt f) .none (<-entryPlaceOf f (head != .none)))):=fun f=>
   (AL env).bind fun fr=>(rV _ _).bind fun pl=>(yf _ _ _ _ _ _).bind fun ne=>jv _ _ _
  show ft ((kC _ _).bind fun x=>ft trivial ((jv _ _ _).bind fun _=>last _)) (last _)
theorem AM (env:Env) (e:Value):cm (leaving env e):=(mA e env).bind fun _=>iz e none
theorem rW {h:Heap}:∀{l:List Env},(∀env∈l,env.scope.kind≠.module/\∃L o,env.frame=some L/\Ω.b.get? L=none/\h.get? L=some o/\∀vs,o.data≠.fields vs)->h.FunFrames Ω.b l
 | [],_=>trivial
 | env::l,H=>by
  obtain⟨h1,L,o,h2,h3,h4,h5⟩:=H env (.head _);show⟨h1,⟨L,o,h2,h3,h4,h5⟩,rW fun e he=>H e (.tail _ he)⟩
theorem mE {h:Heap} {env:Env} {l:List Env} (x:h.FunFrames Ω.b (env::l)):h.FunFrames Ω.b l:=x.2.2
section
variable {M:Model} {A:Around} {E:Value->Shared->Prop} {s:Shared}
theorem fV {l:List Env} {e:Addr} {cls a0 fl:Value} {f:Option Addr} {Q:Unit->Shared->Prop}
 (hkb:Ω.b.StaysIn s.heap) (hl:s.heap.FunFrames Ω.b l) (ht:s.heap.TracedAtW Ω.b e cls a0 fl)
 (h:∀h',Ω.b.StaysIn h'->h'.FunFrames Ω.b l->h'.TracedAtW Ω.b e cls a0 (f.elim .none fun g=>rawInt g)->s.heap.UpToSlots h'->Q () {s with heap:=h'}):
 wpAny M A (setFlight (.ref e) f) Q E s:=by
 show xk ht fun oe vs T oT ts he hcls hd h1 hnT hTe hT hdT h3=>?_;have hsz3:3<ts.size:=(Array.getElem?_eq_some_iff.mp h3).1;have other:∀b,b≠T->(s.heap.update T (Obj.mapFields (·.setIfInBounds 3 (f.elim Value.none fun f=>rawInt f)))).get? b=s.heap.get? b:=
  fun b hb=>Heap.get?_update_other _ _ (ez hb)
 have noRecord:∀b o,s.heap.get? b=some o->(∀vs,o.data≠.fields vs)->b≠T:=fun b o hb hnf q=>by
  rw[q,hT] at hb;injection hb with hb;subst hb;show hnf ts hdT
 unfold setFlight;show aJ (wpAny_field he hd h1 ?_);rw[eM (show(Value.ref T !=Value.none)=true from zs)];show wpAny_setField hT hdT hsz3 (h _ (fun b o hbo=>(other b fun q=>by rw[q,hnT] at hbo;cases hbo).trans (hkb b o hbo))
  (hl.of_keeps fun b o hb hnf=>⟨o,(other b (noRecord b o hb hnf)).trans hb,rfl⟩) ?_ fun b o hb hnf=>⟨o.slots,(other b (noRecord b o hb hnf)).trans hb⟩)
 show⟨oe,vs,T,_,_,(other e (ez hTe)).trans he,hcls,hd,h1,hnT,hTe,Heap.get?_update_self _ hT (Obj.isFreed_of_fields (Obj.data_mapFields hdT _)),Obj.data_mapFields hdT _,by simp [hsz3]⟩
theorem ub {α:Type} {t:Sem α} {l':List Env} {a:Addr} {C a0:Value} {X:AV->AV->Prop} {g:Fz} {N:Addr} {f:Str->Option Value} {Q:α->Shared->Prop} (T:cm t)
 (hd:∃o,s.heap.get? a=some o/\o.dict=some N) (hN:Ω.b.get? N=none/\∀env∈l',env.frame≠some N) (hf:s.heap.Ns N f) (hX:∃v,f "at"=some v/\X (er C) (er v)) (ho:s.os=g.os) (hg:s.gens= #[]) (hu:so g s.heap)
 (hs:wpAny M A t (fun _ s'=>GX Ω.b l' a C a0 s'.heap/\s.heap.UpToSlots s'.heap/\s'.os=s.os/\s'.gens=s.gens) (fun _ _=>False) s)
 (hQ:∀x s',aM Ω.b l' X g (.ref a) s'->GX Ω.b l' a C a0 s'.heap->s.heap.UpToSlots s'.heap->Q x s'):wpAny M A t Q E s:=by
 show dw (pZ T hd hs) (fun x s' ⟨⟨h1,h2,h3,h4⟩,h5⟩=>?_) fun _ _ h=>h.1.elim;show hQ x s' ⟨a,C,a0,N,f,rfl,h1,h5,hN,h2.ns hf,hX,h3.trans ho,h4.trans hg,hu.step h2⟩ h1 h2
theorem QH {α β γ δ ε ζ η θ:Sort _} {P:α->β->γ->δ->ε->ζ->η->θ->Prop} {G:Prop} (h:∃a b c d e f g i,P a b c d e f g i) (k:∀a b c d e f g i,P a b c d e f g i->G):G:=h.elim fun a h=>h.elim fun b h=>h.elim fun c h=>h.elim fun d h=>h.elim fun e h=>h.elim fun f h=>h.elim fun g h=>h.elim fun i h=>k a b c d e f g i h
theorem QI {P0 P1 P2 P3 P4 P5 P6 P7 P8 P9 P10 G:Prop} (h:P0/\P1/\P2/\P3/\P4/\P5/\P6/\P7/\P8/\P9/\P10) (k:P0->P1->P2->P3->P4->P5->P6->P7->P8->P9->P10->G):G:=k h.1 h.2.1 h.2.2.1 h.2.2.2.1 h.2.2.2.2.1 h.2.2.2.2.2.1 h.2.2.2.2.2.2.1 h.2.2.2.2.2.2.2.1 h.2.2.2.2.2.2.2.2.1 h.2.2.2.2.2.2.2.2.2.1 h.2.2.2.2.2.2.2.2.2.2
theorem AN {env:Env} {Up:List Env} {L:Addr} {X:AV->AV->Prop} {g:Fz} {e:Value} {Q:Unit->Shared->Prop} (hfr:A.frames=some (env::Up)) (hf:env.frame=some L) (T:aM Ω.b (env::Up) X g e s)
 (hQ:∀s',aM Ω.b Up X g e s'->Q () s'):wpAny M A (leaving env e) Q E s:=by
 show xk T fun a C a0 N f ea fl hd hN hns hX ho hg hu=>?_;subst ea;show ux fl fun l1 l2 l3 l4=>?_;show ub (a0:=a0) (AM env _) hd ⟨hN.1,fun e he=>hN.2 e (.tail _ he)⟩ hns hX ho hg hu ?_ fun _ s' h _ _=>hQ s' h;rcases l4 with ⟨oe,vs,h1,h2,h3,h4,h5⟩ | h | ⟨env',r,L',q1,q2,h⟩
 . subst h2;show wpAny_leaving_firstW hfr l3 hf h1 l1 l2 h3 h5 h4 fun h' ⟨k1,k2,k3,k4⟩=>?_;show⟨⟨k1,l2,mE k2,.inr (.inl k3)⟩,k4,rfl,rfl⟩
 . show wpAny_leaves_onW hfr hf ⟨l1,l2,l3,h⟩ fun h' ⟨k1,k2,k3,k4⟩ hv=>?_;show⟨⟨k1,k2,k3,.inr (.inl k4)⟩,hv,rfl,rfl⟩
 . injection q1 with q1 q3;subst q1 q3;unfold leaving;show aJ (wpAny_noteFrame_againW q2 h ?_);show fV l1 l3 h fun h' k1 k2 k3 k4=>?_;show⟨⟨k1,l2,mE k2,.inr (.inl k3)⟩,k4,rfl,rfl⟩
noncomputable def M1 (Uo:Heap) (l:List Env) (X:AV->AV->Prop) (g:Fz) (e:Value) (s:Shared):Prop:=
 ∃a C a0 N f env r L,e= .ref a/\l=env::r/\env.frame=some L/\Heap.HeldW Uo l a C a0 L s.heap/\(∃o,s.heap.get? a=some o/\o.dict=some N)/\(Uo.get? N=none/\∀env∈l,env.frame≠some N)/\s.heap.Ns N f/\(∃v,f "at"=some v/\X (er C) (er v))/\s.os=g.os/\s.gens= #[]/\so g s.heap
theorem uc {env:Env} {Up:List Env} {L:Addr} {X:AV->AV->Prop} {g:Fz} {e:Value} {Q:Unit->Shared->Prop} (hfr:A.frames=some (env::Up)) (hf:env.frame=some L) (T:aM Ω.b (env::Up) X g e s)
 (hQ:∀s',M1 Ω.b (env::Up) X g e s'->s.heap.UpToSlots s'.heap->Q () s'):wpAny M A (noteFrame e env) Q E s:=by
 show xk T fun a C a0 N f ea fl hd hN hns hX ho hg hu=>?_;subst ea;show ux fl fun l1 l2 l3 l4=>?_;show dw (pZ (Q:=fun _ s'=>Heap.HeldW Ω.b (env::Up) a C a0 L s'.heap/\s.heap.UpToSlots s'.heap/\s'.os=s.os/\s'.gens=s.gens) (E:=fun _ _=>False) (mA _ env) hd ?_)
  (fun x s' ⟨⟨h1,h2,h3,h4⟩,h5⟩=>hQ s' ⟨a,C,a0,N,f,env,Up,L,rfl,rfl,hf,h1,h5,hN,h2.ns hns,hX,h3.trans ho,h4.trans hg,hu.step h2⟩ h2) fun _ _ h=>h.1.elim
 rcases l4 with ⟨oe,vs,h1,h2,h3,h4,h5⟩ | h | ⟨env',r,L',q1,q2,h⟩
 . subst h2;unfold noteFrame;simp only [hf];show aJ (wpAny_field h1 h3 h5 ?_);rw[dr zd];show wpAny_entryW hfr l3 hf h1 l1 l2 h3 (Array.getElem?_eq_some_iff.mp h5).1 h4 fun h' ⟨k1,k2,k3,k4⟩=>?_;show⟨⟨k1,l2,k2,k3⟩,k4,rfl,rfl⟩
 . show wpAny_looks_onW hfr hf ⟨l1,l2,l3,h⟩ fun h' k1 k2=>⟨k1,k2,rfl,rfl⟩
 . injection q1 with q1 q3;subst q1 q3;have e:L'=L:=ql (q2.symm.trans hf);subst e;show wpAny_noteFrame_againW q2 h ⟨⟨l1,l2,l3,h⟩,Heap.UpToSlots.refl _,rfl,rfl⟩
theorem F6 {env:Env} {Up:List Env} {X:AV->AV->Prop} {g:Fz} {e:Value} (T:M1 Ω.b (env::Up) X g e s)
 (hE:∀s',aM Ω.b (env::Up) X g e s'->E e s'):cameBackBy M A env E e s:=by
 show QH T fun a C a0 N f env' r L hz0=>QI hz0 fun ea q1 hf hh hd hN hns hX ho hg hu=>?_;subst ea;show ux hh fun l1 l2 l3 h=>?_;injection q1 with q1 q3;subst q1 q3;change wpAny M A _ _ E s;show xk (id h) fun oe vs T oT ts he hcls hdd h1 hnT hTe hT hdT h3=>?_;show aJ (wpAny_field he hdd h1 ?_);rw[dr (show¬((Value.ref T==Value.none)=true) from zs)];rw[hf];show ub (a0:=a0) (l':=env::Up) (iz _ _) hd hN hns hX ho hg hu ?_ fun _ s' h _ _=>hE s' h;show fV l1 l3 h fun h' k1 k2 k3 k4=>?_;show⟨⟨k1,l2,k2,.inr (.inr (xh env Up L rfl hf k3))⟩,k4,rfl,rfl⟩
end
theorem JH (W:WW) {a:Addr} {cd:Value} {n:Nat} {binds:List Value->List (Str×Value)} {vs:List AV} {σ:AS} {Q:aG} {X:cC} {k:Nat} (B:CB F) (lc:aO)
 (D:eP F Ω.w Ω.b a cd B.b n binds) (hn:vs.length=n) (hl:lc.length=F.names.length) (hb:∀vv:List Value,vv.map er=vs->GW F.names lc fun x=>(binds vv).reverse.lookup x)
 (h:B.tr k lc σ (kQ Q) X):kO (k+1) (.ref a) vs σ Q X:=by
 show⟨fun A Up g s fv vv hA hH R O rs hf hv=>?_⟩;rw[ah hf];show Mw D.at_ fun o fd ho hd hcr hbd hsc hE hbi=>?_;have kb:∀b o,Ω.b.get? b=some o->s.heap.get? b=some o:=fun b o e=>rs.keep b o (O.keeps b o e);have hlen:vv.length=n:=by rw[<-hn,<-hv,a9]
 have hr1:A.depth<recursionLimit:=Df zo R.1;show codeAny_call_def hr1 (kb _ _ ho) hd (W.top.nolimit.keeps kb) (hcr.keeps kb) hbd (hbi s vv kb hlen) (by rw[hsc];show D.cells) (by rw[hsc];show D.locals_ vv hlen) ?_ (by rw[hsc];show D.plain.1) (by rw[hsc];show D.plain.2) (by rw[hsc];show F.fn);intro UE hns hk;rw[hE];have fresh:s.heap.get? s.heap.objs.size=none:=by
  cases q:s.heap.get? s.heap.objs.size with
  | none=>rfl
  | some o=>show absurd (va q) (Nat.lt_irrefl _)
 have bfresh:Ω.b.get? s.heap.objs.size=none:=by
  cases q:Ω.b.get? s.heap.objs.size with
  | none=>rfl
  | some o=>show absurd (fresh.symm.trans (kb _ _ q)) nofun
 let env:=pp F.scope s.heap.objs.size [] (F.name++".<locals>.") (some a) cd (some s.heap.objs.size)
 let c:Cx F:=⟨A.deeper env,env::Up,g,s.heap.objs.size,[],F.name++".<locals>.",some a,cd,some s.heap.objs.size,W,Around.frames_deeper hA,hH,O.keeps,ie O F.fn rfl bfresh,O.mods,rs.none_of fresh,List.Pairwise.nil,(fun _ _ h=>nomatch h),(fun _ _ _ h=>nomatch h),fun _=>(aS _ rfl rfl)⟩
 have S:St c lc σ {s with heap:=UE,toks:=s.toks+(binds vv).length}:=⟨(aS _ hns (fun i x kd hx hkd=>by
  have e:=D.kinds kd (zz hkd);subst e;unfold ct;rw[dr zd];show hb vv hv i x hx)),hl,rs.ext hk,rs.free_of fresh,fun _ _ h=>nomatch h⟩
 show dw (B.ok c k lc σ {s with heap:=UE,toks:=s.toks+(binds vv).length} _ _ R.deeper S h) (fun f s' hp=>eg hp fun f' lc' UH e S' q=>?_) fun e s' z=>AN (Around.frames_deeper hA) rfl z fun s'' z=>z;cases f<;>cases e<;>show(aS UH S'.rs q)
theorem dY (W:WW) {a:Addr} {cd:Value} {n:Nat} {dv:List Value} {vs:List AV} {σ:AS} {Q:aG} {X:cC} {k:Nat} (B:CB F)
 (D:eP F Ω.w Ω.b a cd B.b n fun vv=>F.names.zip (vv++dv)) (hn:vs.length=n) (hz:n+dv.length<=F.names.length)
 (h:B.tr k (Qz F vs dv) σ (kQ Q) X):kO (k+1) (.ref a) vs σ Q X:=
 JH W B _ D hn (dN _ zu) (fun vv e=>by rw[<-e,<-pj];show su _) h
noncomputable def gq (t:CT F) (B:CB F) (k:Nat) (Q:ax) (X:cC):Nat->aO->AS->Prop
 | 0,_,_=>False
 | n+1,l,σ=>t.tr k l σ (Tg B k l (Tf (gq t B k Q X n) Q) Q X) X
structure EX (t:CT F) (B:CB F) (k:Nat) (l:aO) (σ:AS) (Q:ax) (X:cC):Prop where
 run:∃n,gq t B k Q X n l σ
noncomputable def CS.whileX (t:CT F) (B:CB F) (pos:Pos):CS F where
 b:= .While t.e B.b [] pos
 tr:=fun k l σ Q X=>gd (!F.comp) (EX t B k l σ Q X)
 ok:=fun c k l σ s Q X R S h=>by
  show aL (gh h) fun g h=>?_;have hc:F.comp=false:=by simpa using g
  show aw h.run fun n h=>?_;show ae (c.top hc) fun r e1 e2=>?_;have hfr:c.A.frames=some (c.env::r):=c.frames.trans (congrArg some e1);have stop:∀e s',aM Ω.b c.all X c.g e s'->notedBy (model Ω.p Ω.w) c.A c.env (fun e s'=>cameBackBy (model Ω.p Ω.w) c.A c.env (aM Ω.b c.all X c.g) e s') e s':=fun e s' T=>by
   rw[e1] at T⊢;show uc hfr e2 T fun s'' T' _=>F6 T' fun UD T''=>T''
  show wpAny_While (codeAny_whileLoop (fun n s=>∃l σ,St c l σ s/\gq t B k Q X n l σ) ?_ n ⟨l,σ,S,h⟩);rintro n s ⟨l,σ,S,h⟩;cases n with
  | zero=>show h.elim
  | succ n=>
   show dw (t.ok c k l σ s _ _ R S h) (fun b UB hp=>ae hp fun Uv Uz UE=>?_) stop;cases b
   . show wpAny_execs_nil ⟨_,l,Uv,rfl,Uz,UE.f rfl⟩
   . show dw (B.ok c k l Uv UB _ _ R Uz (UE.t rfl)) (fun f UC hp=>eg hp fun f' l₂ Uw ef UA UF=>?_) stop;cases f<;>cases ef
     . show⟨n,zo,l₂,Uw,UA,UF.go⟩
     . show⟨_,l₂,Uw,rfl,UA,UF⟩
     . show⟨n,zo,l₂,Uw,UA,UF.go⟩
     . show⟨_,l₂,Uw,rfl,UA,UF⟩
noncomputable def IP:List Value:=[.ref 46,.type "Exception",.type "BaseException",.type "object"]
noncomputable abbrev ud:Obj:=excClassObj "CrossFault" "CrossFault" 71 70 [.ref 46] IP true [] [] false none none (some (.ref 62)) none (some (.str "CrossFault" 252)) (some (.str "CrossFault" 260)) (some (.bool true)) "Exception.__new__"
theorem wC (P:Params):(KK P).lookup 71=some ud:=zk
noncomputable abbrev o8 (t:Addr):Obj:={cls:= .ref 71,data:= .fields #[.ref t,.none,.none,.none,.bool false,.none]}
section
variable {A:Around} {E:Value->Shared->Prop} {h:Heap} {g:Array GenState} {d:Drawn} {t:Nat} {os:OsState}
theorem yg {M:Model} {Us:List Value} {Q:Unit->Shared->Prop} (hC:h.get? 71=some ud) (hq:Q () ⟨h,g,d,t,os⟩):
 wpAny M A (checkBuiltinCall "Exception.__new__" ⟨.ref 71::Us,[]⟩) Q E ⟨h,g,d,t,os⟩:=by
 have F:=PySem.F.excBase_Exception;have hcont:(Value.ref 71::IP).contains (.type "Exception")=true:=zd;have hstar:=F.noStar;simp only [checkBuiltinCall,F.newKind,F.newSplit,F.newRow]
 repeat (first | show IO hC ?_ | (show wpAny_isSubtype_exc hC ?_;rw[hcont]) | show wpAny_staticBase_exc hC ?_ | show wpAny_madeBy_exc hC ?_ | simp only [bne_self_eq_false,Bool.false_eq_true,if_false] | wp_step)
 show hq
theorem JI {R:Result->Shared->Prop} {Us:List Value} (hC:h.get? 71=some ud) (hrest:Us.length<=sizeLine)
 (hq:R (.ok (.ret (.ref (h.objs.size+1)))) ⟨(h.push {cls:= .type "tuple",data:= .seq Us.toArray}).push (o8 h.objs.size),g,d,t,os⟩):
 codeAny (model Ω.p Ω.w) A (.builtin "Exception.__new__" ⟨.ref 71::Us,[]⟩) R ⟨h,g,d,t,os⟩:=by
 have F:=PySem.F.excBase_Exception;have hends:=F.ends;have hcB:(Value.ref 71::IP).contains (.type "Exception")=true:=zd;have hcA:(Value.ref 71::IP).contains (.type "AttributeError")=false:=zd;have hcN:(Value.ref 71::IP).contains (.type "NameError")=false:=zd;show codeAny_builtinAt F.entry ?_;unfold Builtin.«BaseException.__new__»;show PySem.wpAt_bind ?_;change PySem.wpAt _ _ _ (stack>>=_) _ _ _;show PySem.wpAt_bind (PySem.wpAt_stack fun p below=>PySem.wpAt_of_wpAny ?_)
 wp_walk
 show PySem.wpAt_of_wpAny ?_;rw[F.owner]
 repeat (first | with_reducible show wpAny_madeHere_exc F.canon hC ?_ | with_reducible show IO hC ?_ | (with_reducible show wpAny_isSubtype_exc hC ?_;first | rw[hcB] | rw[hcA] | rw[hcN]) | wp_step)
 change R _ _;rw[Heap.size_push];show hq
theorem HL {Us:List Value} {Q:Value->Shared->Prop} (X:(KK Ω.w.params).In h) (hrest:Us.length<=sizeLine)
 (hq:wpAny (model Ω.p Ω.w) (A.under (.builtin "type.__call__" ⟨.ref 71::Us,[]⟩)) (call (.ref 36) (.ref (h.objs.size+1)::Us)) (fun r s'=>r= .none/\Q (.ref (h.objs.size+1)) s') E
  ⟨(h.push {cls:= .type "tuple",data:= .seq Us.toArray}).push (o8 h.objs.size),g,d,t,os⟩):
 wpAny (model Ω.p Ω.w) A (call (.ref 71) Us) Q E ⟨h,g,d,t,os⟩:=by
 have F:=PySem.F.excBase_Exception;have hC:h.get? 71=some ud:=X 71 _ (wC Ω.w.params);have f1:=tc_lookup;have f2:=tc_bind (.ref 71);have hT:(⟨h,g,d,t,os⟩:Shared).TypeIs (.ref 71) "type":=(aS _ hC rfl);show wpAny_call (codeAny_of_tree ?_);change wpAny _ _ (callAny (.ref 71) _) _ _ _
 repeat (any_goals (first | assumption | with_reducible show IO hC ?_ | wp_step))
 show⟨rfl,?_⟩;show codeAny_call_builtin_at (Code.quiet_builtin _ (by decide+kernel)) entry_typeCall (wpAny_check_type_call_sub hC ?_)
 repeat (first | with_reducible show IO hC ?_ | with_reducible show wpAny_madeBy_exc hC ?_ | wp_step)
 show codeAny_call_builtin_code (Code.quiet_builtin _ F.quiet) (yg hC ?_);show JI hC hrest ?_;change wpAny _ _ _ _ _ _;have keep:∀b o,h.get? b=some o->((h.push {cls:= .type "tuple",data:= .seq Us.toArray}).push (o8 h.objs.size)).get? b=some o:=fun b o e=>qo _ (qo _ e);have hC₁:=keep _ _ hC;have X₁:(KK Ω.w.params).In ((h.push {cls:= .type "tuple",data:= .seq Us.toArray}).push (o8 h.objs.size)):=fun b o e=>keep _ _ (X b o e);have hget:((h.push {cls:= .type "tuple",data:= .seq Us.toArray}).push (o8 h.objs.size)).get? (h.objs.size+1)=some (o8 h.objs.size):=by heap_get
 have hcC:(Value.ref 71::IP).contains (.ref 71)=true:=zd;unfold isInstance
 repeat (first | with_reducible show IO hget ?_ | wp_step)
 change wpAny _ _ (isSubtype (.ref 71) (.ref 71)) _ _ _;show wpAny_isSubtype_exc hC₁ ?_;rw[hcC]
 repeat wp_step
 change wpAny _ _ (typeLookup (.ref 71) _) _ _ _;show(looks_findIn X₁ (show findIn (KK Ω.w.params) (.ref 71) "__init__"=some (some (.ref 36)) by kernel_rfl)).here ?_;show Ez (aJ ((bind_fn X₁ _ (show typeIn (KK Ω.w.params) (.ref 36)=some (.type "function") by kernel_rfl)).here ?_));show aJ (dw hq (fun r s' hr=>?_) fun _ _ x=>x);show aL hr fun hr0 hQ=>?_;rw[hr0]
 wp_walk
 show hQ
end
section
variable {A:Around} {E:Value->Shared->Prop} {s:Shared}
theorem wD {M:Model} {e:Addr} {oe:Obj} {Us:List Value} {Q:Unit->Shared->Prop} (hC:s.heap.get? 71=some ud) (he:s.heap.get? e=some oe) (hcls:oe.cls= .ref 71) (hq:Q () s):
 wpAny M A (checkBuiltinCall "Exception.__init__" ⟨.ref e::Us,[]⟩) Q E s:=by
 have F:=PySem.F.excBase_Exception;have hcB:(Value.ref 71::IP).contains (.type "Exception")=true:=zd;have hshort:=F.noStar;obtain⟨h,g,d,t,os⟩:=s;simp only [checkBuiltinCall,F.initKind,F.initSplit,F.initRow]
 repeat (first | (with_reducible show IO he ?_;rw[hcls]) | with_reducible show IO hC ?_ | (with_reducible show wpAny_isSubtype_exc hC ?_;rw[hcB]) | wp_step)
 show wpAny_onRaise ?_;rw[show∀(a b:String) (n:Nat),Bind.check ⟨.positional,"*","Exception",.self,[⟨"args",.varPos,false⟩]⟩ a b n (List.map (fun x=>x.fst) ({pos:=Value.ref e::Us}:Args).kw)=pure () from
  fun a b n=>check_star_args _ _ _ _ _ _]
 show cS hq
end
theorem ue (W:WW) {a t:Addr} {N:Option Addr} {v:AV} (ha:σ a=some (.exc 71 t N)) (h:∀t',Q .none (σ.set a (.exc 71 t' N))):
 aa k (.fn "Exception.__init__") [.ref a,v] σ Q X:=by
 show⟨fun A Up g s fv vv hA hH R O rs hf hv=>?_⟩;rw[dL hf];obtain⟨u1,u2,rfl⟩:∃u1 u2,vv=[u1,u2]:=by
  rcases vv with _ | ⟨u1,_ | ⟨u2,_ | ⟨u3,r⟩⟩⟩<;>simp at hv;show⟨u1,u2,rfl⟩
 injection hv with e1 e2;rw[ah e1];have F:=PySem.F.excBase_Exception;obtain⟨ga,ob,hob,rfl⟩:=rs.own a _ ha;obtain⟨h₀,g₀,d,tk,os⟩:=s;have Xk:(KK Ω.w.params).In h₀:=fun a o q=>rs.keep a o (O.keeps a o (W.inK a o q));show wpAny_call (codeAny_call_builtin F.init.plain F.initEntry (wD (Xk 71 _ (wC Ω.w.params)) hob rfl ?_))
 wp_walk
 have r1:RS Ω.p Ω.w g σ ⟨h₀.push {cls:= .type "tuple",data:= .seq #[u2]},g₀,d,tk,os⟩:=rs.ext fun b o e=>qo _ e;show⟨_,r1.put (o:= .exc 71 h₀.objs.size N) ga (Heap.SameBut.update _ _ _).extBut (Heap.get?_update_self _ (qo _ hob) rfl) rfl,h _⟩
theorem Co (W:WW) {vs:List AV} (hl:vs.length<=10) (J:∀a t,σ a=none->aa k (.ref 36) (.ref a::vs) (σ.set a (.exc 71 t none)) (fun r UH=>r= .none/\Q (.ref a) UH) X):
 aa (k+1) (.ref 71) vs σ Q X:=by
 show⟨fun A Up g s fv vv hA hH R O rs hf hv=>?_⟩;rw[ah hf];obtain⟨hh,gg,d,t,os⟩:=s;have X0:(KK Ω.w.params).In hh:=fun a o q=>rs.keep a o (O.keeps a o (W.inK a o q));have hlv:vv.length<=10:=by rw[<-hv,a9] at hl;show hl
 have fresh:∀n,hh.objs.size<=n->hh.get? n=none:=fun n hn=>by
  cases q:hh.get? n with
  | none=>rfl
  | some o=>show absurd (va q) (Nat.not_lt.mpr hn)
 show HL X0 (Nat.le_trans hlv (by rw[mU];lia)) ?_;have r1:RS Ω.p Ω.w g σ ⟨hh.push {cls:= .type "tuple",data:= .seq vv.toArray},gg,d,t,os⟩:=rs.ext fun b o e=>qo _ e;have r2:RS Ω.p Ω.w g (σ.set (hh.objs.size+1) (.exc 71 hh.objs.size none)) ⟨(hh.push {cls:= .type "tuple",data:= .seq vv.toArray}).push (o8 hh.objs.size),gg,d,t,os⟩:=by
  have e:(hh.push {cls:= .type "tuple",data:= .seq vv.toArray}).get? (hh.objs.size+1)=none:=by
   cases q:(hh.push {cls:= .type "tuple",data:= .seq vv.toArray}).get? (hh.objs.size+1) with
   | none=>rfl
   | some o=>have:=va q;rw[Heap.size_push] at this;show absurd this (Nat.lt_irrefl _)
  have e2:((hh.push {cls:= .type "tuple",data:= .seq vv.toArray}).push (o8 hh.objs.size)).get? (hh.objs.size+1)=some (o8 hh.objs.size):=by
   have:=zA (o:=o8 hh.objs.size) (hh.push {cls:= .type "tuple",data:= .seq vv.toArray}) rfl
   rwa [Heap.size_push] at this
  show r1.new e (fun b o q=>qo _ q) e2 rfl
 show dw ((J (hh.objs.size+1) hh.objs.size (rs.free_of (fresh _ (Nat.le_succ _)))).run (A.under (.builtin "type.__call__" ⟨.ref 71::vv,[]⟩)) Up g _ (.ref 36) (.ref (hh.objs.size+1)::vv) hA hH R.make O r2 rfl (by rw[dI,hv];rfl)) (fun r s' z=>?_) fun _ _ e=>e;show j8 z fun UH r' e q=>?_;show⟨dU e,UH,r',q⟩
section
variable {M:Model} {A:Around} {E:Value->Shared->Prop} {env:Env}
theorem JJ {s:Shared} {x:Sem Value} {Q:Flow->Shared->Prop} (hh:A.handled=none)
 (h:wpAny M A x (fun v UB=>∃e t N,v= .ref e/\UB.heap.get? 71=some ud/\UB.heap.get? e=some {cls:= .ref 71,dict:=N,data:= .fields #[.ref t,.none,.none,.none,.bool false,.none]}/\E (.ref e) UB) E s):
 wpAny M A (raiseStmt env (some x) none) Q E s:=by
 have hcB:(Value.ref 71::IP).contains (.type "BaseException")=true:=zd
 delta raiseStmt
 show aJ (dw h (fun v UB UE=>?_) fun _ _ x=>x);show Mx UE fun e t N hr3 hC he hE=>?_;rw[hr3];obtain⟨hp,g,d,tk,os⟩:=UB
 repeat (first | with_reducible show IO he ?_ | with_reducible show IO hC ?_ | (with_reducible show wpAny_isSubtype_exc hC ?_;rw[hcB]) | wp_step)
 show wpAny_raiseNew_none hh hE
end
theorem Cp {h:Heap} {N:Addr} {es:List DictEntry} {n:Nat} {m:List (Attr×AV)} (ho:h.get? N=some (dictOf es n)) (hm:bT es m):h.Ns N (nsFind es.toArray):=by
 show⟨_,_,_,ho,rfl,fun e he=>?_,fun _=>rfl⟩
 replace he:e∈es:=by simpa using he
 clear ho;induction es generalizing m with
 | nil=>cases he
 | cons x es ih=>
  cases m with
  | nil=>show hm.elim
  | cons p m=>
   obtain⟨⟨t,hk⟩,_,hm⟩:=hm;rcases mV he with rfl | he
   . show⟨_,t,hk⟩
   . show ih hm he
structure wE (v:AV) (σ:AS) (X:cC):Prop where
 run:∃a t N m n,v= .ref a/\σ a=some (.exc 71 t (some N))/\σ N=some (.ns m)/\lM m .at=some n/\X (.ref 71) n
section
theorem M3 {c:Cx F} {l:aO} {s:Shared} {v:Value} (S:St c l σ s) (J:wE (er v) σ X):∃e t N,v= .ref e/\s.heap.get? 71=some ud/\s.heap.get? e=some {cls:= .ref 71,dict:=N,data:= .fields #[.ref t,.none,.none,.none,.bool false,.none]}/\
 aM Ω.b c.all X c.g (.ref e) s:=by
 show Sx J.run fun a t N m n ev ha hN hn hX=>?_;obtain⟨ga,oa,hoa,rfl⟩:=S.rs.own a _ ha;obtain⟨gN,oN,hoN,es,nn,rfl,hm⟩:=S.rs.own N _ hN;have bn:∀b,c.g.f b=none->Ω.b.get? b=none:=fun b e=>by
  cases q:Ω.b.get? b with
  | none=>rfl
  | some o=>show absurd ((c.keeps b o q).symm.trans e) nofun
 show ae (hm.find hn) fun d hd hv=>?_;show⟨a,t,some N,ah ev,S.baseKeeps _ _ (c.world.inK 71 _ (wC Ω.w.params)),hoa,a,.ref 71,.ref t,N,nsFind es.toArray,rfl,⟨S.baseKeeps,bn a ga,?_,.inl ⟨_,_,hoa,rfl,rfl,rfl,rfl⟩⟩,⟨_,hoa,rfl⟩,⟨bn N gN,fun env he q=>?_⟩,Cp hoN hm,⟨d.val,?_,by rw[hv];show hX⟩,S.rs.calm.1,S.rs.calm.2,fun b o q _=>⟨o.slots,S.rs.keep _ _ q⟩⟩
 . show rW fun env he=>?_;obtain⟨h1,Lf,h2,h3,h4⟩:=c.stack env he;rcases h4 with rfl | ⟨o,h4,h5⟩
   . show ae S.live fun o ho hf=>?_;show⟨h1,c.L,o,h2,h3,ho,hf⟩
   . show⟨h1,Lf,o,h2,h3,S.rs.keep _ _ h4,h5⟩
 . obtain⟨_,Lf,h2,_,h4⟩:=c.stack env he;cases h2.symm.trans q;rcases h4 with rfl | ⟨o,h4,_⟩
   . rw[S.no] at hN;cases hN
   . rw[gN] at h4;cases h4
 . delta nsFind findBy
   rw[List.find?_toArray];change Option.map _ (es.find? (·.key.isStr (Attr.name .at)))=_;rw[hd];rfl
noncomputable def CS.raise_ (x:CE F) (pos:Pos):CS F where
 b:= .Raise (some x.e) none pos
 tr:=fun k l σ Q X=>x.tr k l σ (fun v Uv=>wE v Uv X) X
 ok:=fun c k l σ s Q X R S h=>by
  rw[arm_exec_Raise];show aJ (wpAny_standAt (JJ c.handled ?_));change wpAny _ _ (eval x.e c.env>>=_) _ _ _;show aJ (gH (x.ok c k l σ s _ X R S h) fun v UB Uv Uz UE=>?_);show aJ (wpAny_standAt (cS (M3 Uz UE)))
end
end
set_option tactic.hygienic true
noncomputable section
open MeetsSeq
set_option maxRecDepth 100000
theorem AP:GB "Exception" (.type "Exception"):=mB
theorem mF:GL "sections_of" (.ref 1664):=mL
theorem jw:GC "CrossFault" (.ref 71):=mC
def aT:Fn:=bZ "PaperError.__init__" (tM 2 0) ["self","what","at"] [gB AP]
def bX:CB aT:= .K (.expr (.m "__init__" (.g 0 181217) 181226 181238 [(.v 0 184081),(.v 1 184987)]) (z 181238)) (.K (.setattr (.v 1 205524) (.v 0 203712) .what (z 203717) (z 203724)) (.K (.setattr (.v 2 227720) (.v 0 226212) .at (z 226215) (z 226220)) .nil))
theorem i8:(bX:CB aT).b=bg 0 (tM 2 0):=zk
theorem nV (W:WW):eP aT Ω.w Ω.b 36 (.ref 35) (bX:CB aT).b 2 fun vv=>aT.names.zip (vv++[(.int (-1) 209)]):=
 fO (st:=tM 2 0) (q:="PaperError.__init__") (df:=(.ref 29)) (pm:=nC) W zk zk (by rw[i8];kernel_rfl) zk rfl (fun s vv X hn=>by obtain⟨v0,v1,rfl⟩:=By hn;show im X (T:=29) (items:=[(.int (-1) 209)]) (ps:=[⟨"self",none,(z 160071)⟩,⟨"what",none,(z 160977)⟩,⟨"at",none,(z 161881)⟩]) zk rfl zk zk (fun fd hp hk=>by obtain⟨⟩:=fd;cases hp;cases hk;show⟨_,rfl,rfl⟩)) zk (jG zk)
theorem nW (W:WW):eP aT Ω.w Ω.b 36 (.ref 35) (bX:CB aT).b 3 fun vv=>aT.names.zip (vv++[]):=
 fO (st:=tM 2 0) (q:="PaperError.__init__") (df:=(.ref 29)) (pm:=nC) W zk zk (by rw[i8];kernel_rfl) zk rfl (fun s vv X hn=>by obtain⟨v0,v1,v2,rfl⟩:=Fw hn;show im X (T:=29) (items:=[(.int (-1) 209)]) (ps:=[⟨"self",none,(z 160071)⟩,⟨"what",none,(z 160977)⟩,⟨"at",none,(z 161881)⟩]) zk rfl zk zk (fun fd hp hk=>by obtain⟨⟩:=fd;cases hp;cases hk;show⟨_,rfl,rfl⟩)) zk (jG zk)
def o9:Fn:=bZ "offset_told" (tF 202) ["data","trailer","key","value"] [gC vM,gB bO,gC jw]
def f8:CB o9:= .K (.a 3 (.m "get" (.v 1 32221819) 32221823 32221828 [(.v 2 32223627)]) 32220609 32220628) (.K (.ite (.q (.v 3 32243562) .Is (.o 32244920) 32243570) (.K (.t (.o 32267269) 32266219) .nil) .nil ⟨1433,4,1434,19⟩) (.K (.ite (.all .Or [(.q (.c 0 32288564 [(.v 3 32289770)] 32288571) .NotEq (.s "int" 32291280) 32288580),(.not (.chain (.i 0 32293239) (z 32293260) .LtE .Lt (.v 3 32293998) (.c 1 32295204 [(.v 0 32295809)] 32295210)) (z 32292660))] (z 32288610)) (.K (.raise_ (.c 2 32312124 [(.r (.s "a bad " 32313783) .Add (.v 2 32315439) 32313789)] 32312140) (z 32311240)) .nil) .nil ⟨1435,4,1436,40⟩) (.K (.t (.v 3 32334166) 32333116) .nil)))
theorem jx:DT o9 1615 1614 3 f8:=dm (tF 202) gF
def f9:Fn:=bZ "chain_along" (tF 208) ["data","begin","read","found","seen","at","section"] [gC jw,gC mq]
def cz:CT f9:=(.q (.v 5 33009012) .IsNot (.o 33010524) 33009024)
def cA:CB f9:= .K (.ite (.q (.v 5 33031663) .In (.v 4 33032571) 33031671) (.K (.raise_ (.c 0 33055228 [(.s "the sections go round" 33056902),(.v 5 33060656)] 33055257) (z 33054357)) .nil) .nil ⟨1468,8,1469,57⟩) (.K (.setitem (.bool true 0 (z 33077873)) (.v 4 33076212) (.v 5 33076965) (z 33076216) (z 33076223)) (.K (.a 6 (.call (.v 2 33100222) "read" (z 33100222) rfl [(.v 0 33100977),(.v 5 33101881)] (z 33100232)) 33098715 33098732) (.K (.expr (.m "append" (.v 3 33121213) 33121220 33121229 [(.v 6 33123178)]) (z 33121229)) (.K (.a 5 (.c 1 33144474 [(.v 0 33146279),(.attr (.v 6 33147188) .trailer (z 33147196)),(.s "Prev" 33149754)] 33144505) 33143710 33143755) .nil))))
def pa:CB f9:= .K (.a 3 (.l 32941814 []) 32940609 32940614) (.K (.a 4 (.dict0 (z 32964163)) 32963108 32963113) (.K (.a 5 (.v 1 32986364) 32985606 32985614) (.K (.whileX cz cA ⟨1467,4,1473,55⟩) (.K (.t (.v 3 33166666) 33165616) .nil))))
theorem yh:DT f9 1657 1656 3 pa:=dm (tF 208) gF
def aK:Fn:=jF "_law_heard" (zM (tF 236)) ["data","begin","caught","found","fault"] [.local,.local,.local,.local,.local] false [] zk
def i9:CB aK:= .K (.assign 2 "caught" (.none 0 ⟨1644,13,1644,17⟩) ⟨1644,4,1644,10⟩ ⟨1644,4,1644,17⟩ rfl (.inl rfl) (fun _=>rfl)) (.K (.try_ (.K (.assign 3 "found" (.call (.glob "sections_of" (.ref 1664) ⟨1646,16,1646,27⟩ zk zd (mF _)) "sections_of" ⟨1646,16,1646,27⟩ rfl [(.loc 0 "data" ⟨1646,28,1646,32⟩ rfl),(.loc 1 "begin" ⟨1646,34,1646,39⟩ rfl)] ⟨1646,16,1646,40⟩) ⟨1646,8,1646,13⟩ ⟨1646,8,1646,40⟩ rfl (.inl rfl) (fun _=>rfl)) .nil) (He (bA (bg 0 (tF 236)) 1)) ⟨1645,4,1648,22⟩) (.K (.ret (.ifexp (.cmp (.loc 2 "caught" ⟨1649,20,1649,26⟩ rfl) .Is (.none 0 ⟨1649,30,1649,34⟩) ⟨1649,20,1649,34⟩) (.loc 3 "found" ⟨1649,11,1649,16⟩ rfl) (.attr (.loc 2 "caught" ⟨1649,40,1649,46⟩ rfl) .at ⟨1649,40,1649,49⟩) ⟨1649,11,1649,49⟩) ⟨1649,4,1649,49⟩) .nil))
theorem Cq:(i9:CB aK).b=bg 0 (tF 236):=zk
theorem ug (W:WW):eP aK Ω.w Ω.b 1872 (.ref 1871) (i9:CB aK).b 2 fun vv=>aK.names.zip (vv++[]):=
 fO (st:=tF 236) (q:="_law_heard") (df:= .none) (pm:=vk) W zk zk (by rw[Cq];kernel_rfl) zk rfl (fun s vv _ hn=>by obtain⟨v0,v1,rfl⟩:=By hn;show BindsTo.of_eq zk) zk (jG zk)
end
set_option tactic.hygienic false
noncomputable section
open MeetsSeq
section
variable {A:Around} {E:Value->Shared->Prop} {s:Shared}
theorem HM {a N:Addr} {o:Obj} {vs:Array Value} {m:Str->Option Value} {v:Value} {Q:Value->Shared->Prop} (X:(KK Ω.w.params).In s.heap) (ho:s.heap.get? a=some o) (hc:o.cls= .ref 71) (hd:o.data= .fields vs) (hN:o.dict=some N)
 (hn:s.heap.Ns N m) (hv:m "at"=some v) (hh:handedIn v=true) (h:Q v {s with toks:=s.toks+1}):wpAny (model Ω.p Ω.w) A (getAttr (.ref a) "at" true) Q E s:=by
 show Mx hn fun oN es ep hoN hdN hk hm=>?_;obtain⟨hp,g,d,t,os⟩:=s;have hC:hp.get? 71=some ud:=X 71 _ (wC Ω.w.params);have FB:=PySem.F.attrBase_Exception;have I:InstAt hp a o 71 (some oN):=⟨ho,hc,by obtain⟨c,dd,dt,sl⟩:=o;dsimp only at hd;rw[hd];rfl,by rw[hN];show hoN⟩;have L0:=I.type (M:=model Ω.p Ω.w);have L1:=looks_findIn (M:=model Ω.p Ω.w) X (show findIn (KK Ω.w.params) (.ref 71) "__getattribute__"=some (some (.builtin "BaseException.__getattribute__")) by kernel_rfl);have L2:=looks_findIn (M:=model Ω.p Ω.w) X (show findIn (KK Ω.w.params) (.ref 71) "__getattr__"=some none by kernel_rfl);have hlk:lookIn "at" oN=some (some v):=by
  have e:=hm "at";rw[hv] at e
  delta nsFind findBy at e
  show ae (Qb.mp e) fun x e1 e2=>?_;rw[<-Array.find?_toList] at e1
  delta lookIn
  rw[hdN];simp only [e1,e2]
 obtain⟨cd,hcd,k1⟩:∃cd,clsIn (KK Ω.w.params) 71=some cd/\cd.hasDict=true:=by
  show ae (Qb.mp (show(clsIn (KK Ω.w.params) 71).map (fun cd=>cd.hasDict)=some true by kernel_rfl)) fun cd h1 h2=>?_;show⟨cd,h1,h2⟩
 have hfo:findObj (KK Ω.w.params) 71 (some oN) "at"=some (.value v):=tA hcd k1 (show findIn (KK Ω.w.params) (.ref 71) "at"=some none by kernel_rfl) hlk;have L3:=looks_find (M:=model Ω.p Ω.w) X I hfo;have f3:=FB.ga.bind (.ref a);have hcB:(Value.ref 71::IP).contains (.type "BaseException")=true:=zd;have hk:builtinKind "BaseException.__getattribute__"=some .slot:=by decide+kernel
 have hsplit:splitId "BaseException.__getattribute__"=some ("BaseException","__getattribute__"):=by decide+kernel
 delta getAttr getAttrBy
 show aJ (wpAny_mkText (Ez (aJ (L0.at (aJ (L1.at ?_))))));dsimp only;rw[dr zd]
 delta getAttrByItsOwn hookBefore
 show aJ ?_;rw[eM (show onTheHeap (.ref 71)=true from rfl)];show L2.at ?_;show aJ (wpAny_attempt (Ez ?_))
 delta callGetattribute
 rw[dr zd]
 delta boundAndCalled
 show aJ ?_;rw[f3];show cS ?_;show wpAny_call (codeAny_call_builtin FB.ga.plain PySem.F.entry_bexc_ga ?_);have chk:wpAny (model Ω.p Ω.w) A.in1 (checkBuiltinCall "BaseException.__getattribute__" {pos:=[.ref a,.str (Str.ofString "at") t]}) (fun _ s'=>s'=⟨hp,g,d,t+1,os⟩) (fun _ _=>False) ⟨hp,g,d,t+1,os⟩:=by
  have ha:=PySem.F.args_bexc_ga (.ref a) (.str (Str.ofString "at") t);simp only [checkBuiltinCall,hk,hsplit];show aJ ?_
  delta isInstance
  repeat (first | (with_reducible show IO ho ?_;rw[hc]) | (with_reducible show wpAny_isSubtype_exc hC ?_;rw[hcB]) | wp_step)
  rfl
 show dw chk (fun _ s' e=>?_) fun _ _ e=>e.elim;subst e;show aJ (cS (aJ (cS (aJ (L0.at (aJ (L3.at ?_)))))));show cS ?_;change wpAny _ _ (handedOut v) _ _ _;rw[handedOut_of hh];show cS h
end
theorem JK {c:Cx F} {l:aO} {s:Shared} (R:da c.A k) (S:St c l σ s) (f:CE F) {id:Str} {p:Pos} (hf:f.e= .Name id p) (xs:List (CE F)) {pos:Pos}
 (ht:∀env,backTo pos (starEach (xs.map (·.e)) env)=xs.map fun x=>(false,eval x.e env))
 (h:f.tr k l σ (fun fv Uv=>CE.argsTr xs k l Uv (fun vs Uw=>bw Ω.w fv/\aa k fv vs Uw (fun _ _=>False) X) fun _ _=>False) fun _ _=>False):
 wpAny (model Ω.p Ω.w) c.A (eval (.Call (.Name id p) (xs.map (·.e)) [] pos) c.env) (fun _ _=>False) (fun e s'=>aM Ω.b c.all X c.g e s'/\∃m,s'.heap.Ns c.L m) s:=by
 show wpAny_Call_NameR ?_;have z:=f.ok c k l σ s _ _ R S h;rw[hf] at z;show dw z (fun fv UB hp=>ae hp fun Uv Uz UE=>?_) fun _ _ e=>(aN e).elim;rw[ht];show callWith_of (P:=fun h=>∃s,s.heap=h/\∃σ,St c l σ s/\bw Ω.w (er fv)) (by rw[CE.plainArgs];rfl) (fun h hp=>ae hp fun s es hp=>ae hp fun σ S e=>es▸iK S e) ?_;show dw (CE.evalArgs_ok c k l _ R fv xs Uv UB _ Uz UE) (fun a UC ⟨ek,Uw,UA,hc,J⟩=>⟨⟨UC,rfl,Uw,UA,hc⟩,?_⟩) fun _ _ e=>(aN e).elim;rw[ek];show dw (J.run c.A c.all (Mine.hide Uw UC) UC fv _ c.frames c.handled R UA.outer UA.rs.hide rfl rfl) (fun _ _ ⟨_,_,q⟩=>q.elim) fun e s' T=>⟨T.weak UA.rs.calm.1 fun b o q=>UA.keepG q,?_⟩;obtain⟨m,⟨o,es,ep,ho,hd,r⟩,_⟩:=UA.ns;show xk T fun _ _ _ _ _ _ _ _ _ _ _ _ _ hu=>?_;obtain⟨sl,hs⟩:=hu c.L o (by rw[bH UA.no];show ho) fun vs q=>by rw[hd] at q;cases q
 show⟨m,_,es,ep,hs,hd,r⟩
section
variable {A:Around} {E:Value->Shared->Prop} {s:Shared}
noncomputable def AQ (Uo:Heap) (l:List Env) (X:AV->AV->Prop) (g:Fz) (e:Value) (s:Shared):Prop:=
 ∃a C a0 N f,e= .ref a/\Heap.FlyingW Uo l a C a0 s.heap/\(∃o,s.heap.get? a=some o/\o.dict=some N)/\(Uo.get? N=none/\∀env∈l,env.frame≠some N)/\s.heap.Ns N f/\(∃v,f "at"=some v/\X (er C) (er v))/\s.os=g.os/\s.gens= #[]/\so g s.heap
theorem QJ {M:Model} {l:List Env} {X:AV->AV->Prop} {g:Fz} {a N:Addr} {C a0 fl:Value} {f:Str->Option Value} {Q:Unit->Shared->Prop} (hkb:Ω.b.StaysIn s.heap) (hb:Ω.b.get? a=none) (hl:s.heap.FunFrames Ω.b l) (ht:s.heap.TracedAtW Ω.b a C a0 fl)
 (hd:∃o,s.heap.get? a=some o/\o.dict=some N) (hN:Ω.b.get? N=none/\∀env∈l,env.frame≠some N) (hf:s.heap.Ns N f) (hX:∃v,f "at"=some v/\X (er C) (er v)) (ho:s.os=g.os) (hg:s.gens= #[]) (hu:so g s.heap)
 (hQ:∀s',AQ Ω.b l X g (.ref a) s'->s.heap.UpToSlots s'.heap->Q () s'):wpAny M A (setFlight (.ref a) none) Q E s:=by
 show dw (pZ (Q:=fun _ s'=>Heap.FlyingW Ω.b l a C a0 s'.heap/\s.heap.UpToSlots s'.heap/\s'.os=s.os/\s'.gens=s.gens) (E:=fun _ _=>False) (iz _ none) hd ?_)
  (fun x s' ⟨⟨h1,h2,h3,h4⟩,h5⟩=>hQ s' ⟨a,C,a0,N,f,rfl,h1,h5,hN,h2.ns hf,hX,h3.trans ho,h4.trans hg,hu.step h2⟩ h2) fun _ _ h=>h.1.elim
 show fV hkb hl ht fun h' k1 k2 k3 k4=>⟨⟨k1,hb,k2,k3⟩,k4,rfl,rfl⟩
theorem DY {M:Model} {l:List Env} {X:AV->AV->Prop} {g:Fz} {e:Value} {Q:Unit->Shared->Prop} (T:M1 Ω.b l X g e s) (hQ:∀s',AQ Ω.b l X g e s'->s.heap.UpToSlots s'.heap->Q () s'):wpAny M A (setFlight e none) Q E s:=by
 show QH T fun a C a0 N f env' r L hz0=>QI hz0 fun ea q1 hf hh hd hN hns hX ho hg hu=>?_;subst ea;show QJ hh.1 hh.2.1 hh.2.2.1 hh.2.2.2 hd hN hns hX ho hg hu hQ
theorem AR {M:Model} {l:List Env} {X:AV->AV->Prop} {g:Fz} {e:Value} {Q:Unit->Shared->Prop} (T:AQ Ω.b l X g e s) (hQ:∀s',AQ Ω.b l X g e s'->s.heap.UpToSlots s'.heap->Q () s'):wpAny M A (setFlight e none) Q E s:=by
 show xk T fun a C a0 N f ea hh hd hN hns hX ho hg hu=>?_;subst ea;show QJ hh.1 hh.2.1 hh.2.2.1 hh.2.2.2.at hd hN hns hX ho hg hu hQ
end
section
variable {E:Value->Shared->Prop} {s:Shared}
theorem JL {c:Cx F} {r:List Env} (e1:c.all=c.env::r) (e2:c.fr=some c.L) {e:Value} {m:Str->Option Value} {u:AV} {y n:Str} {np p1 p2 p3 pos:Pos} {Q:Flow->Shared->Prop} (T:aM Ω.b c.all X c.g e s) (hn:s.heap.Ns c.L m)
 (hx:F.scope.names.lookup ("CrossFault":Str)=some .globalImplicit) (hly:F.scope.names.lookup y=some .local) (hlo:F.scope.names.lookup n=some .local) (hny:n≠y) (hd:(n==("__debug__":Str))=false) (hX:∀C v,X C v->C= .ref 71/\v=u)
 (hcf:nsIn (KK Ω.w.params) mainGlobals "CrossFault"=some (some (.ref 71)))
 (hQ:∀s' a o vs N f v m',Ω.b.StaysIn s'.heap->s'.os=c.g.os->s'.gens= #[]->so c.g s'.heap->s'.heap.Ns c.L m'->m' y=some (.ref a)->s'.heap.get? a=some o->o.cls= .ref 71->o.data= .fields vs->o.dict=some N->s'.heap.Ns N f->f "at"=some v->er v=u->Q .next s'):
 wpAny (model Ω.p Ω.w) c.A (noteFrame e c.env) (fun _ UC=>wpAny (model Ω.p Ω.w) c.A (setFlight e none) (fun _ UD=>
  wpAny (model Ω.p Ω.w) c.A (handleBy e c.env [.ExceptHandler (some (.Name "CrossFault" np)) (some n) [.Assign [.Name y p1] (.Name n p2) p3] pos]) Q E UD) E UC) E s:=by
 have hfr:c.A.frames=some (c.env::r):=c.frames.trans (congrArg some e1);have bL:Ω.b.get? c.L=none:=by
  obtain⟨_,Lf,h2,h3,_⟩:=c.stack c.env (by rw[e1];show .head _);have:Lf=c.L:=ql (h2.symm.trans e2)
  rwa [this] at h3
 have hp:(c.env.scope.kind== .class || (c.env.scope.kind== .module&&c.env.locals !=c.env.globals))=false:=by
  change(F.scope.kind== .class || (F.scope.kind== .module&&_))=false;rw[F.fn];rfl
 rw[e1] at T;show uc hfr e2 T fun UC T₂ u₂=>?_;show DY T₂ fun UD T₃ u₃=>?_;show xk (id T₃) fun a C a0 N f ea fl hdd hN hns hX3 ho hg hu=>?_;subst ea;show ae hX3 fun v hv hxv=>?_;show aL (hX _ _ hxv) fun eC ev=>?_;cases ah eC;show ae fl.there fun ob hob hobc=>?_;have hn₃:=(u₂.trans u₃).ns hn;have kb:∀b o,Ω.b.get? b=some o->UD.heap.get? b=some o:=fl.1;show wpAny_handleBy_cons (codeAny_handlers_test (Name_function_global F.fn hx (loadGlobal_global (c.world.top.g.keeps kb) (mg_of c.world.inK c.world.top.g hcf) ?_) zd)) (by intro q;cases q);show wpAny_excMatches_sub_self (bm:=IP) (kb _ _ (c.world.inK 71 _ (wC Ω.w.params))) hob hobc zd (codeAny_handlers_suite_as ?_);show AR T₃ fun s₅ T₅ u₅=>?_;show wpAny_storeName_local hlo (Heap.UpToSlots.ns u₅ hn₃) (fun h₆ hn₆ hs₆=>?_) ?_
 . show wpAny_execs_cons (wpAny_Assign_Name (wpAny_Name (wpAny_loadName_local F.fn hlo hn₆ (eM rfl) ?_) hd));show wpAny_storeName_local hly hn₆ (fun h₇ hn₇ hs₇=>?_) ?_
   . show wpAny_execs_nil ?_;show wpAny_nameGoes_keeps hlo hn₇ hp fun h₈ v₈ hn₈ hs₈=>?_;have hs:Heap.SameBut c.L s₅.heap h₈:=(hs₆.trans hs₇).trans hs₈;show xk T₅ fun a' C' a0' N' f' ea fg hd5 hN' hns' hX5 ho' hg' hu'=>?_;cases ea;show ae hX5 fun v' hv' hxv'=>?_;show ux fg fun g1 g2 g3 g4=>?_;show xk (id g4) fun oe vs _ _ _ he hc0 hvs _ _ _ _ _ _=>?_;show ae hd5 fun o' ho1 ho2=>?_;rw[he] at ho1;cases ho1;show aL (hX _ _ hxv') fun eC' ev'=>?_;have neN:N'≠c.L:=fun q=>hN'.2 c.env (.head _) (by rw[q];show e2);have nea:a≠c.L:=fun q=>by
      show eg (Heap.UpToSlots.ns u₅ hn₃) fun o es ep h1 h2 _=>?_;have h1:s₅.heap.get? c.L=some o:=h1;rw[<-q,he] at h1;cases h1;rw[hvs] at h2;cases h2
     show hQ _ a oe vs N' f' v' _ (fun b o q=>(hs.2 b fun z=>by rw[z,bL] at q;cases q).trans (g1 b o q)) ho' hg' (fun b o q hnf=>?_) hn₈ (by rw[dr (ez hny),eM rfl]) ((hs.2 a nea).trans he) (hc0.1.trans (ah eC')) hvs ho2 (hns'.sameBut hs neN) hv' ev';show aw (hu' b o q hnf) fun sl e=>?_;show⟨sl,(hs.2 b fun z=>by rw[z,c.fresh] at q;cases q).trans e⟩
   . show hp
 . show hp
end
theorem F7:He (bA (bg 0 (tF 236)) 1)= .ExceptHandler (some (.Name "CrossFault" ⟨1647,11,1647,21⟩)) (some "fault") [.Assign [.Name "caught" ⟨1648,8,1648,14⟩] (.Name "fault" ⟨1648,17,1648,22⟩) ⟨1648,8,1648,22⟩] ⟨1647,4,1648,22⟩:=zk
theorem kE (W:WW) {D:LU} {p:Nat} {n:Int} (J:∀σ,aa k (.ref 1664) [.bytes D,.int p] σ (fun _ _=>False) (fun C x=>C= .ref 71/\x= .int n)):lN Ω (k+1) (.ref 1872) [.bytes D,.int p] σ (.int n):=by
 show⟨fun A Up g s fv vv hA hH R O rs hf hv=>?_⟩;rw[ah hf];have D0:=ug W;show Mw D0.at_ fun o fd ho hd hcr hbd hsc hE hbi=>?_;have kb:∀b o,Ω.b.get? b=some o->s.heap.get? b=some o:=fun b o e=>rs.keep b o (O.keeps b o e);have hlen:vv.length=2:=by have:=congrArg List.length hv;rw[a9] at this;show this
 have hr1:A.depth<recursionLimit:=Df zo R.1;show wpAny_call (codeAny_call_def hr1 (kb _ _ ho) hd (W.top.nolimit.keeps kb) (hcr.keeps kb) hbd (hbi s vv kb hlen) (by rw[hsc];show D0.cells) (by rw[hsc];show D0.locals_ vv hlen) ?_ (by rw[hsc];show D0.plain.1) (by rw[hsc];show D0.plain.2) (by rw[hsc];show aK.fn));intro UE hns hk;rw[hE];have fresh:s.heap.get? s.heap.objs.size=none:=a7 _;have bfresh:Ω.b.get? s.heap.objs.size=none:=by
  cases q:Ω.b.get? s.heap.objs.size with
  | none=>rfl
  | some o=>show absurd (fresh.symm.trans (kb _ _ q)) nofun
 let env:=pp aK.scope s.heap.objs.size [] (aK.name++".<locals>.") (some 1872) (.ref 1871) (some s.heap.objs.size)
 let c:Cx aK:=⟨A.deeper env,env::Up,g,s.heap.objs.size,[],aK.name++".<locals>.",some 1872,.ref 1871,some s.heap.objs.size,W,Around.frames_deeper hA,hH,O.keeps,ie O aK.fn rfl bfresh,O.mods,rs.none_of fresh,List.Pairwise.nil,(fun _ _ h=>nomatch h),(fun _ _ _ h=>nomatch h),fun _=>⟨_,rfl,rfl⟩⟩
 have S:St c (fN aK [.bytes D,.int p]) σ {s with heap:=UE,toks:=s.toks+(aK.names.zip (vv++[])).length}:=⟨⟨_,hns,fun i x kd hx hkd=>by
  have e:=D0.kinds kd (zz hkd);subst e;unfold ct;rw[dr zd,<-hv,Bo];show su _ i x hx⟩,dN _ zl,rs.ext hk,rs.free_of fresh,fun _ _ h=>nomatch h⟩
 change wpAny _ c.A (execs (i9).b c.env) _ _ _;show wpAny_execs_cons (dw ((CS.assign (F:=aK) 2 "caught" (.none 0 ⟨1644,13,1644,17⟩) ⟨1644,4,1644,10⟩ ⟨1644,4,1644,17⟩ rfl (.inl rfl) (fun _=>rfl)).ok c k _ σ _ (fun f l UH=>f= .next/\l=(fN aK [.bytes D,.int p]).set 2 (some .none)/\UH=σ) (fun _ _=>False) R.deeper S ⟨rfl,rfl,rfl⟩) (fun f UB hp=>eg hp fun f' l₁ Uv e Uz UE=>?_) fun _ _ e=>(aN e).elim);show GV UE fun hr0 hr1 hr2=>?_;subst hr0;subst hr1;subst hr2;cases f<;>cases e;have e2:c.all=c.env::Up:=rfl;show wpAny_execs_cons (wpAny_Try_except (wpAny_execs_cons (wpAny_Assign_Name (dw (JK (X:=fun C x=>C= .ref 71/\x= .int n) (c:=c) R.deeper Uz (.glob "sections_of" (.ref 1664) ⟨1646,16,1646,27⟩ zk zd (mF _)) rfl [(.loc 0 "data" ⟨1646,28,1646,32⟩ rfl),(.loc 1 "begin" ⟨1646,34,1646,39⟩ rfl)] (fun _=>rfl) ?_) (fun _ _ z=>z.elim) fun e UC ⟨T,m,hm⟩=>?_))))
 . show⟨by first | show trivial | (change keepIn _ _=true;kernel_rfl),?_⟩;show J _
 . rw[F7];show JL (c:=c) (u:= .int n) e2 rfl T hm zk zk zk zd zd (fun _ _ h=>h) (jw.1 _) ?_;intro s' a o vs N f v m' b1 b2 b3 b4 b5 b6 b7 b8 b9 b10 b11 b12 b13;have nm:(c.env.kindOf "caught")=some .local:=zk;show wpAny_execs_cons (wpAny_Return_some (wpAny_IfExp (wpAny_isTrue_Compare1 (wpAny_Name (wpAny_loadName_local aK.fn nm b5 b6 ?_) zd))));show wpAny_Constant_none (vt ?_);show wpAny_truthy_bool ?_;dsimp only [bB,er];rw[dr zd];show Attribute_any_ (wpAny_Name (wpAny_loadName_local aK.fn nm b5 b6 ?_) zd) rfl;show aw (aI b13) fun t hr1=>?_;subst hr1;show HM (fun a o q=>b1 a o (W.inK a o q)) b7 b8 b9 b10 b11 b12 rfl ?_;show⟨rfl,b1,b2,b3,b4⟩
theorem yj (W:WW) {what:Str} {n:Int} (hx:X (.ref 71) (.int n)) (hq:∀v UH,wE v UH X->Q v UH):aa (k+2) (.ref 71) [.str what,.int n] σ Q X:=by
 show Co W zl fun a t ha=>?_;show(af W bX (nW W) rfl (zd) ?_).call;show oh ?_;show ue W AS.UJ fun t'=>?_;show j9.ofExc0 AS.UJ zk fun N hN hne=>?_;show j9.ofExc AS.UJ ((AS.UK hne).trans AS.UJ) zk (by show zy rfl) ?_;show⟨rfl,hq _ _ ⟨a,t',N,_,_,rfl,(AS.UK (ez hne)).trans AS.UJ,AS.UJ,rfl,hx⟩⟩
theorem yk (W:WW) {what:Str} (hx:X (.ref 71) (.int (-1))) (hq:∀v UH,wE v UH X->Q v UH):aa (k+2) (.ref 71) [.str what] σ Q X:=by
 show Co W zl fun a t ha=>?_;show(af W bX (nV W) rfl (zd) ?_).call;show oh ?_;show ue W AS.UJ fun t'=>?_;show j9.ofExc0 AS.UJ zk fun N hN hne=>?_;show j9.ofExc AS.UJ ((AS.UK hne).trans AS.UJ) zk (by show zy rfl) ?_;show⟨rfl,hq _ _ ⟨a,t',N,_,_,rfl,(AS.UK (ez hne)).trans AS.UJ,AS.UJ,rfl,hx⟩⟩
theorem p8 (W:WW) {n:Int} (hq:Q (.str "int") σ):aa (k+1) (.ref 433) [.int n] σ Q X:=by
 show(af W sK (yT W) rfl zd ?_).call;left;show cH W iT (b:=false) zk ?_;left;show cH W iT (b:=true) zk ?_;left;show hq
theorem mG (W:WW) {D:LU} {d:Addr} {kv:List (Str×PV)} {key:Str} (hd:dj σ d kv) (h:∀y∈kv,y.1≠key) (hq:Q .none σ):aa (k+2) (.ref 1615) [.bytes D,.ref d,.str key] σ Q X:=by
 show aH hd fun ep done h1 h2 h3=>?_;have g:=sV h3 h;show(dY W f8 (jx W) rfl zd ?_).call;show jQ h1 ?_;show mX (x:= .s key) h1 ?_;rw[g];left;show hq
theorem sZ (W:WW) {D ds:LU} {d:Addr} {kv:List (Str×PV)} {key:Str} (hd:dj σ d kv) (nd:(kv.map (·.1)).Nodup) (h:(key,PV.int ds)∈kv) (hz:D.length<=1000000) (lt:ay 0 ds<D.length) (hq:Q (.int (ay 0 ds)) σ):
 aa (k+2) (.ref 1615) [.bytes D,.ref d,.str key] σ Q X:=by
 show aH hd fun ep done h1 h2 h3=>?_;show ae (jX h2 h3 nd h) fun v g e=>?_;cases (show v=_ from e);show(dY W f8 (jx W) rfl zd ?_).call;show jQ h1 ?_;show mX (x:= .s key) h1 ?_;rw[g];left;show p8 W ?_;left;show am zo ?_;show Br.neg zu ?_;show hq
theorem wF (W:WW) {D ds:LU} {d:Addr} {kv:List (Str×PV)} {key:Str} (hd:dj σ d kv) (nd:(kv.map (·.1)).Nodup) (h:(key,PV.int ds)∈kv) (hz:D.length<=1000000) (lk:key.length<=100) (ge:D.length<=ay 0 ds) (hx:X (.ref 71) (.int (-1))):
 aa (k+3) (.ref 1615) [.bytes D,.ref d,.str key] σ Q X:=by
 show aH hd fun ep done h1 h2 h3=>?_;show ae (jX h2 h3 nd h) fun v g e=>?_;cases (show v=_ from e);show(dY W f8 (jx W) rfl zd ?_).call;show jQ h1 ?_;show mX (x:= .s key) h1 ?_;rw[g];left;show p8 W ?_;left;show am zo ?_;show Br.pos zu ?_;show⟨by rw[mU];have:("a bad ":Str).length=6:=rfl;lia,?_⟩;show yk W hx fun v UH r=>?_;show r
theorem p9 (W:WW) {c N E:Addr} {D Us:LU} {p:Nat} (C:cV σ c N D p) (hr:sG Us) (hd:D.drop p=[48]++([32]++([48]++([10]++Us)))) (hq:Q .none (σ.set N (bb D (p+4)))):
 aa (k+5) (.ref 807) [.ref c,.ref E] σ Q X:=by
 have C1:=C.step hd;have d1:=ac hd;have C2:=C1.step d1;have d2:=ac d1;have C3:=C2.step d2;have d3:=ac d2;have C4:=C3.step d3;show aa.forget ?_;show(af W fi (iU W) rfl zd ?_).call;show gX W (ds:=[48]) C zd nofun zd (by change gw 32=false;decide) hd ?_;show ad C1.i C1.n (f:=166) zk ?_;show aE W C1 fk (by show⟨zd,zd⟩) d1 ?_;show gX W (ds:=[48]) C2 zd nofun zd (by change gw 10=false;decide) d2 ?_;show ad C3.i C3.n (f:=166) zk ?_;show aE W C3 zd hr d3 ?_;show sA fun R hR=>?_;have S:=AS.Sub.set (o:= .rng (ay 0 [48]) ((ay 0 [48]:Int)+(ay 0 [48]:Nat)) 1) hR;show eQ.of (dM (BR (a:=0) (b:=0) zd zd) zd) AS.UJ ?_;have e:vz ((0:Nat):Int) ((0:Nat):Int) 1=[]:=q9 (a:=0) (b:=0);rw[e];show⟨_,S,?_⟩;rw[AS.UL,AS.UL,AS.UL];show hq
structure gz (D:LU) (p:Nat) (Uu:List cU):Prop where
 ex:∃ws R,(∀c∈ws,qm c=true)/\D.drop p=ws++(y9++([10]++([48]++([32]++([48]++([10]++(fq++([32]++([60,60]++(aC (dh Uu::cB Uu)++R))))))))))
 ig:∀y∈Uu,bx y.1/\y.2.good
 il:Uu.length<=49
 ind:(Uu.map (bd ·.1)).Nodup
theorem gz.lt {D:LU} {p:Nat} {Uu:List cU} (h:gz D p Uu):p<D.length:=by
 show bQ h.ex fun ws R _ e=>?_;have:=congrArg List.length e;rw[Fl] at this;simp at this;lia
theorem uX (W:WW) {c N:Addr} {D:LU} {p:Nat} {Uu:List cU} (C:cV σ c N D p) (h:gz D p Uu)
 (hq:∀T E d UH,σ.But N UH->UH T=some (.tup [.ref E,.ref d])->di UH E []->dj UH d (cP Uu)->Q (.ref T) UH):aa (k+8) (.ref 821) [.ref c] σ Q X:=by
 show bQ h.ex fun ws R hw hd=>?_;show(af W iu (mj W) rfl zd ?_).call;show ad C.i C.n (f:=166) zk ?_;show aE W C hw (by show⟨zd,zd⟩) hd ?_;have C1:=C.step hd;have d1:=ac hd;show ad C1.i C1.n (f:=159) zk ?_;show fU W C1 zd d1 ?_;have C2:=C1.step d1;have d2:=ac d1;left;intro E ep hE;have S:=AS.Sub.set (o:= .dict ep []) hE;have C3:=C2.sub S;have hE0:=(AS.UM ((AS.UM hE).2)).2;show ad C3.i C3.n (f:=166) zk ?_;show aE W C3 (ws:=[10]) zd (by show⟨zd,zd⟩) d2 ?_;have d3:=ac d2;have T3:Tb σ _ c N D _ E []:=⟨C3,⟨ep,AS.UJ⟩,aF,((AS.But.of_set.set (.inl rfl)).sub S),hE0⟩;have T4:=T3.move (aB d2 C3.le);have hn:sG (fq++([32]++([60,60]++(aC (dh Uu::cB Uu)++R)))):=show sG (116::([114,97,105,108,101,114]++([32]++([60,60]++(aC (dh Uu::cB Uu)++R))))) from⟨zd,zd⟩;show⟨2,?_⟩;show ad T4.C.i T4.C.n (f:=138) zk ?_;show eo W T4.C ?_;show cD W ?_;rw[cF d3,iP,show gw 48=true by decide];left;show p9 W T4.C hn d3 ?_;have d4:=ac (ac (ac (ac d3)));have T5:=T4.move (aB (ac (ac (ac d3))) (aB (ac (ac d3)) (aB (ac d3) (aB d3 T4.C.le))));show ad T5.C.i T5.C.n (f:=166) zk ?_;show oQ W T5.C (HB d4 hn) ?_;show⟨?_⟩;show ad T5.C.i T5.C.n (f:=138) zk ?_;show eo W T5.C ?_;show cD W ?_;rw[cF d4,iP,show gw 116=false by decide];left;show ad T5.C.i T5.C.n (f:=159) zk ?_;show fU W T5.C zd d4 ?_;have T6:=T5.move (aB d4 T5.C.le);have d5:=ac d4;left;show mn W T6.C fk d5 h.ig h.il h.ind fun d UI q B hN ht _=>?_;show aw T6.e fun ep6 e6=>?_;have tab:di _ E []:=⟨ep6,[],e6,T6.r,rfl⟩;have tab2:=tab.but B T6.C.n;show⟨zl,?_⟩;intro T hT;have S7:=AS.Sub.set (o:= .tup [.ref E,.ref d]) hT;show hq T E d _ ((T6.ext.trans B).sub S7) AS.UJ (tab2.sub S7) (ht.sub S7)
theorem iA (W:WW) {D:LU} {p:Nat} {Uu:List cU} (hz:D.length<=1000000) (h:gz D p Uu)
 (hq:∀S UH,σ.Sub UH->gR UH S p [] (cP Uu)->Q (.ref S) UH):aa (k+9) (.ref 1629) [.bytes D,.int p] σ Q X:=by
 have lt:=h.lt;show(af W fo (i6 W) rfl zd ?_).call;left;show am zo ?_;show Br.neg zu ?_;show gm W (.inl rfl) hz fun a N ha hN hne=>?_;have C:=cV.new (σ:=σ) (p:=p) hne (Nat.le_of_lt lt) hz;show uX W C h fun T E d UH B hT hE hd=>?_;have S:=AS.But.toSub hN ha hne B;show aD hT ⟨rfl,?_⟩;show m9 W ⟨rfl,rfl,rfl⟩ fun s M hs hM hne=>?_;have S2:=AS.Sub.mk (C:=1597) (m:=[(.at,.int p),(.entries,.ref E),(.trailer,.ref d)]) hs hM hne;show hq s _ (S.trans S2) ⟨M,E,d,At.new hne,hE.sub S2,hd.sub S2⟩
theorem ng {Uu:List cU} (h:(Uu.map (bd ·.1)).Nodup):((cP Uu).map (·.1)).Nodup:=by rw[bq];show h
theorem Cr (W:WW) {D:LU} {p:Nat} {Uu:List cU} {ts:List gY} {r:AV} (hz:D.length<=1000000) (h:eH D p ts Uu) (hx:∀y∈cP Uu,y.1≠"XRefStm")
 (hq:∀S UH,σ.Sub UH->gR UH S p (ts.map (·.row)) (cP Uu)->Q (.ref S) UH):aa (k+10) (.ref 1636) [.bytes D,.int p,r] σ Q X:=by
 show(dY W cy (dD W) rfl zd ?_).call;show i7 W hz h fun S UH s0 hs=>?_;show eg (id hs) fun M E d h1 h2 h3=>?_;show AttrJ.of h1.i h1.n rfl zk rfl ?_;show mG W h3 hx ?_;left;show hq S UH s0 hs
theorem ym (W:WW) {D:LU} {p:Nat} {Uu:List cU} {r:AV} (hz:D.length<=1000000) (h:gz D p Uu) (hx:∀y∈cP Uu,y.1≠"XRefStm")
 (hq:∀S UH,σ.Sub UH->gR UH S p [] (cP Uu)->Q (.ref S) UH):aa (k+10) (.ref 1636) [.bytes D,.int p,r] σ Q X:=by
 show(dY W cy (dD W) rfl zd ?_).call;show iA W hz h fun S UH s0 hs=>?_;show eg (id hs) fun M E d h1 h2 h3=>?_;show AttrJ.of h1.i h1.n rfl zk rfl ?_;show mG W h3 hx ?_;left;show hq S UH s0 hs
theorem AT (W:WW) {D ds:LU} {p:Nat} {Uu:List cU} {r:AV} (hz:D.length<=1000000) (h:gz D p Uu) (hx:(("XRefStm":Str),PV.int ds)∈cP Uu) (ge:D.length<=ay 0 ds)
 (hq:X (.ref 71) (.int (-1))):aa (k+10) (.ref 1636) [.bytes D,.int p,r] σ Q X:=by
 show(dY W cy (dD W) rfl zd ?_).call;show iA W hz h fun S UH s0 hs=>?_;show eg (id hs) fun M E d h1 h2 h3=>?_;show AttrJ.of h1.i h1.n rfl zk rfl ?_;show wF W h3 (ng h.ind) hx hz zd ge hq
theorem Cs (W:WW) {D ds:LU} {p:Nat} {Uu it2:List cU} {ts:List gY} {all:List g6} (hz:D.length<=1000000) (h:eH D p ts Uu) (hx:(("XRefStm":Str),PV.int ds)∈cP Uu) (h2:f7 D (ay 0 ds) it2 all)
 (hq:∀S UH,σ.Sub UH->gR UH S p (mz (all.map (·.row)) (all.map (·.row)) (ts.map (·.row))) (cP Uu)->Q (.ref S) UH):aa (k+10) (.ref 1636) [.bytes D,.int p,.ref 1490] σ Q X:=by
 have lt:ay 0 ds<D.length:=by obtain⟨_,_,st⟩:=h2.st;show st.lt
 show(dY W cy (dD W) rfl zd ?_).call;show i7 W hz h fun S UH s0 hs=>?_;show eg (id hs) fun M E d q1 q2 q3=>?_;show AttrJ.of q1.i q1.n rfl zk rfl ?_;show sZ W q3 (ng h.ind) hx hz lt ?_;left;show AttrJ.of q1.i q1.n rfl zk rfl ?_;show jY W hz h2 fun S2 σ2 s2 hs2=>?_;show eg (id hs2) fun M2 E2 d2 p1 p2 p3=>?_;show AttrJ.of p1.i p1.n rfl zk rfl ?_;show sX W (q2.sub s2) p2 ?_ ?_ fun F σ3 s3 hF=>?_
 . have:=h.tnd;rw[bq];show this
 . have:=h.tl;have:=h2.z;rw[a9,a9];lia
 have r1:=(q1.sub s2).sub s3;show AttrJ.of r1.i r1.n rfl zk rfl ?_;show m9 W ⟨rfl,rfl,rfl⟩ fun z Mz hz1 hz2 hz3=>?_;have S4:=AS.Sub.mk (C:=1597) (m:=[(.at,.int p),(.entries,.ref F),(.trailer,.ref d)]) hz1 hz2 hz3;show hq z _ (((s0.trans s2).trans s3).trans S4) ⟨Mz,F,d,At.new hz3,hF.sub S4,((q3.sub s2).sub s3).sub S4⟩
theorem jZ (W:WW) {D ws Us:LU} {d:UInt8} {p:Nat} (hz:D.length<=1000000) (hp:p<=D.length) (hw:∀c∈ws,qm c=true) (hd:D.drop p=ws++(d::Us)) (hn:sG (d::Us))
 (J:∀UH,σ.Sub UH->aa (k+10) (.ref (if gw d then 1608 else 1636)) [.bytes D,.int p,.ref 1490] UH Q X):aa (k+12) (.ref 1650) [.bytes D,.int p] σ Q X:=by
 show(dY W mx (wv W) rfl zd ?_).call;show(dY (k:=k+10) W rK (AC W) rfl zd ?_).call;show gm W (.inl rfl) hz fun a N ha hN hne=>?_;have C:=cV.new (σ:=σ) (p:=p) hne hp hz;show ad C.i C.n (f:=166) zk ?_;show aE W C hw hn hd ?_;have C2:=C.step hd;have d2:=ac hd;show ad C2.i C2.n (f:=138) zk ?_;show eo W C2 ?_;show cD W ?_;rw[cF d2,iP];rw[AS.mk_eq hne];have S:=AS.Sub.mk (C:=211) (m:=[(.data,.bytes D),(.at,.int (p+ws.length:Nat)),(.end_,.int D.length)]) ha hN hne;cases hf:gw d with
 | true=>
  rw[hf] at J;left;show J _ S
 | false=>
  rw[hf] at J;left;show J _ S
inductive nX where
 | cl (Uu:List cU) (ts:List gY)
 | hd (Uu:List cU)
 | st (Uu:List cU) (all:List g6)
 | hy (Uu:List cU) (ts:List gY) (ds:LU) (it2:List cU) (all:List g6)
noncomputable def nX.rows:nX->List aY
 | .cl _ ts=>ts.map (·.row)
 | .hd _=>[]
 | .st _ all=>all.map (·.row)
 | .hy _ ts _ _ all=>mz (all.map (·.row)) (all.map (·.row)) (ts.map (·.row))
noncomputable def nX.kv:nX->List (Str×PV)
 | .cl Uu _=>cP Uu
 | .hd Uu=>cP Uu
 | .st Uu _=>(cP Uu).filter fun y=>lm y.1
 | .hy Uu _ _ _ _=>cP Uu
def nX.At (D:LU) (p:Nat):nX->Prop
 | .cl Uu ts=>eH D p ts Uu/\∀y∈cP Uu,y.1≠"XRefStm"
 | .hd Uu=>gz D p Uu/\∀y∈cP Uu,y.1≠"XRefStm"
 | .st Uu all=>f7 D p Uu all
 | .hy Uu ts ds it2 all=>eH D p ts Uu/\(("XRefStm":Str),PV.int ds)∈cP Uu/\f7 D (ay 0 ds) it2 all
theorem nX.At.lt {D:LU} {p:Nat}:∀{c:nX},c.At D p->p<D.length
 | .cl _ _,h=>h.1.lt
 | .hd _,h=>h.1.lt
 | .st _ _,h=>by obtain⟨_,_,st⟩:=f7.st h;show st.lt
 | .hy _ _ _ _ _,h=>h.1.lt
theorem nX.At.nd {D:LU} {p:Nat}:∀{c:nX},c.At D p->(c.kv.map (·.1)).Nodup
 | .cl _ _,h=>ng h.1.ind
 | .hd _,h=>ng h.1.ind
 | .st _ _,h=>by obtain⟨_,_,st⟩:=f7.st h;show(ng st.ind).sublist (List.Sublist.map _ List.filter_sublist)
 | .hy _ _ _ _ _,h=>ng h.1.ind
theorem wG (W:WW) {D:LU} {p:Nat} {c:nX} (hz:D.length<=1000000) (h:c.At D p)
 (hq:∀S UH,σ.Sub UH->gR UH S p c.rows c.kv->Q (.ref S) UH):aa (k+12) (.ref 1650) [.bytes D,.int p] σ Q X:=by
 have lt:=h.lt;have nx:∀r,sG ((120:UInt8)::r):=fun r=>⟨zd,zd⟩;cases c with
 | cl Uu ts=>
  show bQ h.1.ex fun ws R hw hd=>?_;show jZ W hz (Nat.le_of_lt lt) hw hd (nx _) fun UH S=>Cr W hz h.1 h.2 fun x σ2 S2 hs=>hq x σ2 (S.trans S2) hs
 | hd Uu=>
  show bQ h.1.ex fun ws R hw hd=>?_;show jZ W hz (Nat.le_of_lt lt) hw hd (nx _) fun UH S=>ym W hz h.1 h.2 fun x σ2 S2 hs=>hq x σ2 (S.trans S2) hs
 | st Uu all=>
  show sn (f7.st h) fun nd gd st=>?_;show aH st.ex fun ws R hw hR hd=>?_;show sn (IN st.n.2.1) fun d r hnd=>?_;have fd:gw d=true:=st.n.1 d (by rw[hnd];show bJ);rw[hnd] at hd;show jZ W hz (Nat.le_of_lt lt) hw hd (rr fd) fun UH S=>?_;rw[fd];show(jY (k:=k) W hz h fun x σ2 S2 hs=>hq x σ2 (S.trans S2) hs).up zo
 | hy Uu ts ds it2 all=>
  show bQ h.1.ex fun ws R hw hd=>?_;show jZ W hz (Nat.le_of_lt lt) hw hd (nx _) fun UH S=>Cs W hz h.1 h.2.1 h.2.2 fun x σ2 S2 hs=>hq x σ2 (S.trans S2) hs
theorem DZ (W:WW) {D ds:LU} {p:Nat} {Uu:List cU} (hz:D.length<=1000000) (h:gz D p Uu) (hx:(("XRefStm":Str),PV.int ds)∈cP Uu) (ge:D.length<=ay 0 ds)
 (hq:X (.ref 71) (.int (-1))):aa (k+12) (.ref 1650) [.bytes D,.int p] σ Q X:=by
 show bQ h.ex fun ws R hw hd=>?_;show jZ W hz (Nat.le_of_lt h.lt) hw hd (show sG ((120:UInt8)::_) from⟨zd,zd⟩) fun UH S=>AT W hz h hx ge hq
noncomputable def AS.del (σ:AS) (a:Addr):AS:=fun b=>if b=a then none else σ b
theorem AS.del_same {σ:AS} {a:Addr}:(σ.del a) a=none:=eM rfl
theorem AS.del_other {σ:AS} {a b:Addr} (h:b≠a):(σ.del a) b=σ b:=dr h
theorem AS.del_sub {σ:AS} {a:Addr}:(σ.del a).Sub σ:=fun b o e=>by
 by_cases h:b=a
 . rw[h,AS.del_same] at e;cases e
 . show(AS.del_other (σ:=σ) h).symm.trans e
theorem AS.del_set {σ:AS} {a:Addr} {o:AO} (h:σ a=none):(σ.set a o).del a=σ:=funext fun b=>by
 by_cases e:b=a
 . rw[e,AS.del_same,h]
 . rw[AS.del_other e,AS.UK e]
theorem AS.del_set2 {σ:AS} {a b:Addr} {o:AO} (h:a≠b):(σ.set b o).del a=(σ.del a).set b o:=funext fun c=>by
 by_cases e:c=a
 . rw[e,AS.del_same,AS.UK h,AS.del_same]
 . rw[AS.del_other e];by_cases e2:c=b
   . rw[e2,AS.UJ,AS.UJ]
   . rw[AS.UK e2,AS.UK e2,AS.del_other e]
theorem RS.outer {g:Fz} {s:Shared} {Up:List Env} (r:RS Ω.p Ω.w g σ s) (O:eD Ω.b Up g):eD Ω.b Up (Mine.hide σ s):=
 ⟨fun b o e=>r.keepG (O.keeps b o e),fun env he=>let ⟨h1,L,o,h2,h3,h4,h5⟩:=O.frames env he;⟨h1,L,o,h2,h3,r.keepG h4,h5⟩,let ⟨o,e⟩:=O.mods;⟨o,r.keepG e⟩⟩
theorem aa.frame {f:AV} {vs:List AV} {a:Addr} {o:AO} (h:σ a=some o) (J:aa k f vs (σ.del a) (fun v UH=>UH a=none->Q v (UH.set a o)) X):aa k f vs σ Q X:=by
 show⟨fun A Up g s fv vv hA hH R O rs hf hv=>?_⟩;obtain⟨ga,ob,hob,hof⟩:=rs.own a o h;have r0:=rs.sub (AS.del_sub (a:=a));show dw (J.run A Up _ s fv vv hA hH R (r0.outer O) r0.hide hf hv) (fun r s' hp=>ae hp fun UH r' q=>?_) fun e s' T=>T.weak rs.calm.1 fun b o q=>r0.keepG q;have fz:(Mine.hide (σ.del a) s).f a=some ob:=by rw[bH AS.del_same];show hob
 have n:UH a=none:=by
  cases e:UH a with
  | none=>rfl
  | some x=>show absurd ((r'.own a _ e).1.symm.trans fz) nofun
 have r2:=r0.unhide r';show⟨UH.set a o,⟨r2.keep,fun b o' e=>?_,r2.calm⟩,q n⟩;by_cases z:b=a
 . subst z;rw[AS.UJ] at e;cases e;show⟨ga,ob,r'.keep _ _ fz,hof⟩
 . rw[AS.UK z] at e;show r2.own b o' e
noncomputable def Ct (σ:AS) (F Sn:Addr) (Uq:List Addr) (ep:Nat) (pl:List Nat):AS:=(σ.set F (.list (Uq.map .ref))).set Sn (.dict ep (pl.map fun p:Nat=>(.i p,.bool true)))
structure yo (σ0 σ:AS) (F Sn:Addr):Prop where
 f:σ F=none
 s:σ Sn=none
 ne:F≠Sn
 ext:σ0.Sub σ
theorem yo.sub {σ0 σ:AS} {F Sn:Addr} (h:yo σ0 σ F Sn) (Uq:List Addr) (ep:Nat) (pl:List Nat):σ.Sub (Ct σ F Sn Uq ep pl):=(AS.Sub.set h.f).trans (AS.Sub.set ((AS.UK (ez h.ne)).trans h.s))
theorem yo.atF {σ0 σ:AS} {F Sn:Addr} (h:yo σ0 σ F Sn) {Uq:List Addr} {ep:Nat} {pl:List Nat}:Ct σ F Sn Uq ep pl F=some (.list (Uq.map .ref)):=(AS.UK h.ne).trans AS.UJ
theorem yo.atS {σ:AS} {F Sn:Addr} {Uq:List Addr} {ep:Nat} {pl:List Nat}:Ct σ F Sn Uq ep pl Sn=some (.dict ep (pl.map fun p:Nat=>(.i p,.bool true))):=AS.UJ
theorem yo.put {σ0 σ:AS} {F Sn:Addr} (h:yo σ0 σ F Sn) {Uq:List Addr} {ep ep':Nat} {pl:List Nat} {xs:List (AK×AV)}:(Ct σ F Sn Uq ep pl).set Sn (.dict ep' xs)=(σ.set F (.list (Uq.map .ref))).set Sn (.dict ep' xs):=AS.UL
theorem yo.app {σ0 σ:AS} {F Sn S:Addr} (h:yo σ0 σ F Sn) {Uq:List Addr} {ep:Nat} {pl:List Nat}:(Ct σ F Sn Uq ep pl).set F (.list (Uq.map .ref++[.ref S]))=Ct σ F Sn (Uq++[S]) ep pl:=funext fun b=>by
 unfold Ct;rw[pj];by_cases e:b=F
 . rw[e,AS.UJ,AS.UK h.ne,AS.UJ];rfl
 . rw[AS.UK e];by_cases e2:b=Sn
   . rw[e2,AS.UJ,AS.UJ]
   . rw[AS.UK e2,AS.UK e2,AS.UK e,AS.UK e]
theorem HN {pl:List Nat} {p:Nat}:(bl (pl.map fun p:Nat=>((.i p:AK),(.bool true:AV))) (.i p)).isSome=pl.any (· ==p):=by
 unfold bl;rw[Option.isSome_map];induction pl with
 | nil=>rfl
 | cons y l ih=>
  rw[dI,List.find?_cons,List.any_cons];by_cases e:y=p
  . rw[show decide (((AK.i y:AK),(AV.bool true)).1=AK.i (p:Int))=true by simp [e],show(y==p)=true by simpa using e];rfl
  . rw[show decide (((AK.i y:AK),(AV.bool true)).1=AK.i (p:Int))=false by simp;lia,show(y==p)=false by simpa using e,Bool.false_or];show ih
noncomputable abbrev Nu (D:LU) (b:AV) (F Sn:Addr) (at_:AV) (x:Option AV):aO:=[some (.bytes D),some b,some (.ref 1650),some (.ref F),some (.ref Sn),some at_,x]
theorem wH (W:WW) {D:LU} {b:AV} {F Sn:Addr} {Q:ax} {σ0:AS} {p n ep:Nat} {c:nX} {Uq:List Addr} {pl:List Nat} {x:Option AV} (hz:D.length<=1000000) (H:yo σ0 σ F Sn) (h:c.At D p) (hn:p∉pl) (hl:pl.length<=1000/\Uq.length<=1000)
 (hq:∀S UH ep' d,σ.Sub UH->yo σ0 UH F Sn->gR UH S p c.rows c.kv->dj UH d c.kv->aa (k+12) (.ref 1615) [.bytes D,.ref d,.str "Prev"] (Ct UH F Sn (Uq++[S]) ep' (pl++[p]))
  (fun v UI=>gq (cz) cA (k+12) Q X n (Nu D b F Sn v (some (.ref S))) UI) X):
 gq (cz) cA (k+12) Q X (n+1) (Nu D b F Sn (.int p) x) (Ct σ F Sn Uq ep pl):=by
 left;show qs (x:= .i p) yo.atS ?_;rw[HN,show pl.any (· ==p)=false by rw[List.any_eq_false];intro y hy e;show hn (by rwa [Bh.mp e] at hy)];left;show bM (x:= .i p) yo.atS zm fun ep'=>?_;rw[H.put,fe (fun y hy e=>by obtain⟨z,hz,rfl⟩:=bp.mp hy;show hn (by have:=AK.i.inj e;rwa [show z=p by lia] at hz))];have e1:(σ.set F (.list (Uq.map .ref))).set Sn (.dict ep' ((pl.map fun p:Nat=>((.i p:AK),(.bool true:AV)))++[(.i p,.bool true)]))=Ct σ F Sn Uq ep' (pl++[p]):=by unfold Ct;rw[pj];rfl
 rw[e1];walk_at "w";show⟨by first | show trivial | (change keepIn _ _=true;kernel_rfl),?_⟩;show aa.frame (a:=Sn) yo.atS ?_;have e2:(Ct σ F Sn Uq ep' (pl++[p])).del Sn=σ.set F (.list (Uq.map .ref)):=AS.del_set ((AS.UK (ez H.ne)).trans H.s);rw[e2];show aa.frame (a:=F) AS.UJ ?_;rw[AS.del_set H.f];show wG W hz h fun S UH s0 hs hF hS=>?_;rw[AS.UK (ez H.ne)] at hS;have H':yo σ0 UH F Sn:=⟨hF,hS,H.ne,H.ext.trans s0⟩;show eg (id hs) fun M E d q1 q2 q3=>?_;have e3:((UH.set F (.list (Uq.map .ref))).set Sn (.dict ep' ((pl++[p]).map fun p:Nat=>((.i p:AK),(.bool true:AV))))).set F (.list (Uq.map .ref++[.ref S]))=Ct UH F Sn (Uq++[S]) ep' (pl++[p]):=H'.app;show bV (H'.atF (Uq:=Uq) (ep:=ep') (pl:=pl++[p])) ?_;show dx (H'.atF (Uq:=Uq) (ep:=ep') (pl:=pl++[p])) zm ?_;rw[e3];have r1:=q1.sub (H'.sub (Uq++[S]) ep' (pl++[p]));show AttrJ.of r1.i r1.n rfl zk rfl ?_;show(hq S UH ep' d s0 H' hs q3).mono fun v UI z=>?_;show⟨z⟩
def gA (D:LU):List (Nat×nX)->Prop
 | []=>True
 | [(p,c)]=>c.At D p
 | (p,c)::(p',c')::r=>c.At D p/\(∃ds,(("Prev":Str),PV.int ds)∈c.kv/\ay 0 ds=p')/\gA D ((p',c')::r)
noncomputable def fW:List (Nat×nX)->List (Str×PV)
 | []=>[]
 | [(_,c)]=>c.kv
 | _::y::r=>fW (y::r)
abbrev nY:=Addr×Nat×nX
abbrev kF (σ:AS) (l:List nY):Prop:=∀x∈l,gR σ x.1 x.2.1 x.2.2.rows x.2.2.kv
theorem kF.sub {σ UH:AS} {l:List nY} (h:kF σ l) (S:σ.Sub UH):kF UH l:=fun x hx=>(h x hx).sub S
theorem gA.lt {D:LU}:∀{l:List (Nat×nX)},gA D l->∀x∈l,x.1<D.length
 | [],_,_,h=>nomatch h
 | [(p,c)],h,x,hx=>by cases dK.mp hx;show nX.At.lt h
 | (p,c)::(p',c')::r,h,x,hx=>by
  rcases mV hx with rfl | hx
  . show nX.At.lt h.1
  . show gA.lt h.2.2 x hx
theorem s5 (W:WW) {D:LU} {b:AV} {F Sn:Addr} {Q:ax} {σ0:AS} (hz:D.length<=1000000):∀(r:List (Nat×nX)) (p:Nat) (c:nX) (σ:AS) (ep:Nat) (done:List nY) (pl:List Nat) (x:Option AV),yo σ0 σ F Sn->gA D ((p,c)::r)->
 (pl++((p,c)::r).map (·.1)).Nodup->pl.length+((p,c)::r).length<=1000->done.length+((p,c)::r).length<=1000->kF σ done->
 (∀UH S d ep' pl' done',yo σ0 UH F Sn->done'.map (·.2)=done.map (·.2)++(p,c)::r->pl'=pl++((p,c)::r).map (·.1)->kF UH done'->dj UH d (fW ((p,c)::r))->aa (k+12) (.ref 1615) [.bytes D,.ref d,.str "Prev"] (Ct UH F Sn (done'.map (·.1)) ep' pl')
  (fun v UI=>gq (cz) cA (k+12) Q X 1 (Nu D b F Sn v (some (.ref S))) UI) X)->
 gq (cz) cA (k+12) Q X (r.length+2) (Nu D b F Sn (.int p) x) (Ct σ F Sn (done.map (·.1)) ep pl):=by
 intro r;induction r with
 | nil=>
  intro p c σ ep done pl x H L nd h1 h2 hs fin;have np:p∉pl:=fun h=>by
   rw[Ey] at nd;show nd.2.2 p h p (.head _) rfl
  simp only [fF,List.length_nil] at h1 h2;show wH W hz H L np ⟨zo,by rw[a9];lia⟩ fun S UH ep' d s0 H' q1 q2=>?_;have e:done.map (·.1)++[S]=(done++[((S,p,c):nY)]).map (·.1):=zs;rw[e];show fin UH S d ep' _ (done++[(S,p,c)]) H' zs rfl (fun y hy=>?_) q2;rcases eL.mp hy with hy | hy
  . show(hs y hy).sub s0
  . cases dK.mp hy;show q1
 | cons z r ih=>
  obtain⟨p',c'⟩:=z;intro p c σ ep done pl x H L nd h1 h2 hs fin;obtain⟨hA,⟨ds,m1,m2⟩,L'⟩:=L;have np:p∉pl:=fun h=>by
   rw[Ey] at nd;show nd.2.2 p h p (.head _) rfl
  simp only [fF] at h1 h2;show wH W hz H hA np ⟨zo,by rw[a9];lia⟩ fun S UH ep' d s0 H' q1 q2=>?_;show(sZ (k:=k+10) W (q2.sub (H'.sub _ _ _)) hA.nd m1 hz (by rw[m2];show gA.lt L' (p',c') (.head _)) ?_);rw[m2];have e:done.map (·.1)++[S]=(done++[((S,p,c):nY)]).map (·.1):=zs;rw[e];show ih p' c' UH ep' (done++[(S,p,c)]) (pl++[p]) _ H' L' (by simpa using nd) zu zu (fun y hy=>?_) fun σ2 S2 d2 ep2 pl2 done2 g1 g2 g3 g4 g5=>fin σ2 S2 d2 ep2 pl2 done2 g1 (by rw[g2];simp) (by rw[g3];simp) g4 g5;rcases eL.mp hy with hy | hy
  . show(hs y hy).sub s0
  . cases dK.mp hy;show q1
theorem ja (W:WW) {D:LU} {p n:Nat} {X:cC} (hq:∀F Sn ep Q',yo σ σ F Sn->(∀x UH,Q (.ref F) UH->Q' .next (Nu D (.int p) F Sn .none x) UH)->
 gq (cz) cA (k+12) Q' X n (Nu D (.int p) F Sn (.int p) none) (Ct σ F Sn [] ep [])):
 aa (k+14) (.ref 1664) [.bytes D,.int p] σ Q X:=by
 show(dY W oZ (ya W) rfl zd ?_).call;show(dY (k:=k+12) W pa (yh W) rfl zd ?_).call;show⟨zy rfl,?_⟩;intro F hF;intro Sn ep hS;show aL (AS.UM hS) fun h1 h2=>?_;show⟨n,hq F Sn ep _ ⟨hF,h2,ez h1,AS.Sub.rfl⟩ fun x UH z=>?_⟩;show z
theorem pb (W:WW) {D:LU} {p:Nat} {c:nX} {r:List (Nat×nX)} (hz:D.length<=1000000) (L:gA D ((p,c)::r)) (nd:(((p,c)::r).map (·.1)).Nodup) (hl:((p,c)::r).length<=1000) (he:∀y∈fW ((p,c)::r),y.1≠"Prev")
 (hq:∀F UH done,σ.Sub UH->UH F=some (.list (done.map fun x:nY=> .ref x.1))->done.map (·.2)=(p,c)::r->kF UH done->Q (.ref F) UH):aa (k+14) (.ref 1664) [.bytes D,.int p] σ Q X:=by
 show ja (n:=r.length+2) W fun F Sn ep Q' H h=>?_;show s5 W hz r p c σ ep [] [] _ H L (by simpa using nd) (by simpa using hl) (by simpa using hl) aF fun UH S d ep' pl' done' H' e1 e2 hs ht=>?_;show mG (k:=k+10) W (ht.sub (H'.sub _ _ _)) he ?_;have z:=H'.sub (done'.map (·.1)) ep' pl';have fin:=h (some (.ref S)) (Ct UH F Sn (done'.map (·.1)) ep' pl') (hq F _ done' (H'.ext.trans z) (by rw[H'.atF,bq];rfl) e1 (hs.sub z));left;show fin
theorem wI (W:WW) {D ds:LU} {p:Nat} {c:nX} {r:List (Nat×nX)} (hz:D.length<=1000000) (L:gA D ((p,c)::r)) (nd:(((p,c)::r).map (·.1)).Nodup) (hl:((p,c)::r).length<=1000) (ndl:((fW ((p,c)::r)).map (·.1)).Nodup)
 (he:(("Prev":Str),PV.int ds)∈fW ((p,c)::r)) (ge:D.length<=ay 0 ds) (hx:X (.ref 71) (.int (-1))):aa (k+14) (.ref 1664) [.bytes D,.int p] σ Q X:=by
 show ja (n:=r.length+2) W fun F Sn ep Q' H h=>?_;show s5 W hz r p c σ ep [] [] _ H L (by simpa using nd) (by simpa using hl) (by simpa using hl) aF fun UH S d ep' pl' done' H' e1 e2 hs ht=>?_;show wF (k:=k+9) W (ht.sub (H'.sub _ _ _)) ndl he hz zd ge hx
theorem uY (W:WW) {D ds:LU} {p:Nat} {c:nX} {r:List (Nat×nX)} (hz:D.length<=1000000) (L:gA D ((p,c)::r)) (nd:(((p,c)::r).map (·.1)).Nodup) (hl:((p,c)::r).length<=1000) (ndl:((fW ((p,c)::r)).map (·.1)).Nodup)
 (he:(("Prev":Str),PV.int ds)∈fW ((p,c)::r)) (hm:ay 0 ds∈((p,c)::r).map (·.1)) (hx:X (.ref 71) (.int (ay 0 ds))):aa (k+14) (.ref 1664) [.bytes D,.int p] σ Q X:=by
 have lt:ay 0 ds<D.length:=by obtain⟨x,hx,e⟩:=bp.mp hm;rw[<-e];show L.lt x hx
 show ja (n:=r.length+2) W fun F Sn ep Q' H h=>?_;show s5 W hz r p c σ ep [] [] _ H L (by simpa using nd) (by simpa using hl) (by simpa using hl) aF fun UH S d ep' pl' done' H' e1 e2 hs ht=>?_;show sZ (k:=k+10) W (ht.sub (H'.sub _ _ _)) ndl he hz lt ?_;left;show qs (x:= .i (ay 0 ds:Nat)) yo.atS ?_;rw[HN,show pl'.any (· ==ay 0 ds)=true by rw[Bn];show⟨_,by rw[e2];show hm,by simp⟩];left;show yj (k:=k+10) W hx fun v UH r=>r
theorem wL (W:WW) {D ds:LU} {p:Nat} {Uu:List cU} (hz:D.length<=1000000) (h:gz D p Uu) (hx:(("XRefStm":Str),PV.int ds)∈cP Uu) (ge:D.length<=ay 0 ds) (hX:X (.ref 71) (.int (-1))):
 aa (k+14) (.ref 1664) [.bytes D,.int p] σ Q X:=by
 show ja (n:=1) W fun F Sn ep Q' H _=>?_;left;show qs (x:= .i p) yo.atS ?_;left;show bM (x:= .i p) yo.atS (Nat.zero_le _) fun ep'=>?_;walk_at "w";show⟨by first | show trivial | (change keepIn _ _=true;kernel_rfl),?_⟩;show DZ W hz h hx ge hX
noncomputable def IQ:List aY->List aY->List aY
 | Uq,[]=>Uq
 | Uq,x::r=>IQ (if Uq.any (fun y=>y.n==x.n) then Uq else Uq++[x]) r
noncomputable def iB:List aY->List (List aY)->List aY
 | Uq,[]=>Uq
 | Uq,t::r=>iB (IQ Uq t) r
theorem HO (W:WW) {T F:Addr} {et:Nat} {tab:List ER} {Q:ax} {x0:Option AV} (nd:(tab.map (·.r.n)).Nodup) (hT:σ T=some (.dict et (ag tab))) (hF:σ F=none) (ht:∀x∈tab,cZ σ x):
 ∀(rs ps Uq:List ER) (ef:Nat) (x:Option AV),ps++rs=tab->Uq.length+rs.length<=100000->(∀x∈Uq,cZ σ x)->
 (∀(x:Option AV) (ef':Nat) (Ur:List ER),Ur.map (·.r)=IQ (Uq.map (·.r)) (rs.map (·.r))->Ur.length<=Uq.length+rs.length->(∀x∈Ur,cZ σ x)->Q .next [x0,some (.ref F),some (.ref T),x] (σ.set F (.dict ef' (ag Ur))))->
 bU (tV) tW (fun σ=>σ T=some (.dict et (ag tab))) k Q (rs.map fun y=> .int y.r.n) [x0,some (.ref F),some (.ref T),x] (σ.set F (.dict ef (ag Uq))):=by
 intro rs;induction rs with
 | nil=>
  intro ps Uq ef x e hl ha hq;show hq x ef Uq rfl (Nat.le_refl _) ha
 | cons y rs ih=>
  intro ps Uq ef x e hl ha hq;rw[fF] at hl;have hm:y∈tab:=by rw[<-e];simp
  have gy:bl (ag tab) (.i y.r.n)=some (.ref y.a):=cR nd hm;have e2:ps++[y]++rs=tab:=by simpa using e
  have hT':=fun ef' xs=>(AS.UK (σ:=σ) (a:=F) (o:= .dict ef' xs) (ez (aR hF hT))).trans hT;have en:(bl (ag Uq) (.i y.r.n)).isSome=(Uq.map (·.r)).any fun z=>z.n==y.r.n:=by rw[na,List.any_map];rfl
  rw[dI];show py (x:= .i y.r.n) AS.UJ ?_;rw[en];cases hb:(Uq.map (·.r)).any fun z=>z.n==y.r.n with
  | true=>
   left;show⟨hT' _ _,ih (ps++[y]) Uq ef _ e2 zo ha fun x ef' Ur h1 h2 h3=>hq x ef' Ur ?_ (by rw[fF];lia) h3⟩;rw[h1,dI];change _=IQ (if _ then _ else _) _;rw[hb,eM rfl]
  | false=>
   left;show a8 (x:= .i y.r.n) (hT' _ _) gy ?_;show bM (x:= .i y.r.n) AS.UJ zm fun ef'=>?_;rw[AS.UL,<-iy];have ep:iI Uq y=Uq++[y]:=by
    unfold iI;rw[List.any_map] at hb;rw[show(Uq.any fun z=>z.r.n==y.r.n)=false from hb,dr zd]
   rw[ep];show⟨hT' _ _,ih (ps++[y]) (Uq++[y]) ef' _ e2 zu (fun z hz=>?_) fun x ef2 Ur h1 h2 h3=>hq x ef2 Ur ?_ (by rw[fF];simp at h2;lia) h3⟩
   . rcases eL.mp hz with hz | hz
     . show ha z hz
     . cases dK.mp hz;show ht _ hm
   . rw[h1,dI];change _=IQ (if _ then _ else _) _;rw[hb,dr zd,pj];rfl
abbrev HP:=Addr×List aY
noncomputable def nh (l:List HP):Nat:=(l.map fun t=>t.2.length).sum
theorem HQ (W:WW) {I F:Addr} {all:List HP} {Q:ax} (hI:σ I=some (.list (all.map fun t=> .ref t.1))) (hF:σ F=none):∀(rs:List HP) (Uq:List ER) (ef:Nat) (x2 x3:Option AV),Uq.length+nh rs<=100000->(∀t∈rs,di σ t.1 t.2/\(t.2.map (·.n)).Nodup)->
 (∀x∈Uq,cZ σ x)->(∀(x2 x3:Option AV) (ef':Nat) (Ur:List ER),Ur.map (·.r)=iB (Uq.map (·.r)) (rs.map (·.2))->(∀x∈Ur,cZ σ x)->Q .next [some (.ref I),some (.ref F),x2,x3] (σ.set F (.dict ef' (ag Ur))))->
 bU (tU) tX (fun σ=>σ I=some (.list (all.map fun t:HP=> .ref t.1))) k Q (rs.map fun t=> .ref t.1) [some (.ref I),some (.ref F),x2,x3] (σ.set F (.dict ef (ag Uq))):=by
 intro rs;induction rs with
 | nil=>
  intro Uq ef x2 x3 hl ht ha hq;show hq x2 x3 ef Uq rfl ha
 | cons t rs ih=>
  intro Uq ef x2 x3 hl ht ha hq;obtain⟨⟨et,tab,q1,q2,q3⟩,nd⟩:=ht t (.head _);have lz:nh (t::rs)=tab.length+nh rs:=by
   change t.2.length+_=_;rw[<-q3,a9];rfl
  rw[lz] at hl;have hT':=(AS.UK (σ:=σ) (a:=F) (o:= .dict ef (ag Uq)) (ez (aR hF q1))).trans q1;rw[dI];show eQ.of cQ hT' ?_;have ek:((ag tab).map fun p=>p.1.av)=tab.map fun y=>AV.int y.r.n:=by rw[bq];rfl
  rw[ek];show HO W (by rw[<-q3,bq] at nd;show nd) q1 hF q2 tab [] Uq ef _ rfl zo ha fun x ef' Ur h1 h2 h3=>?_;show⟨(AS.UK (ez (aR hF hI))).trans hI,ih Ur ef' _ _ zo (fun z hz=>ht z (.tail _ hz)) h3 fun x2 x3 ef2 acc2 g1 g2=>hq x2 x3 ef2 acc2 ?_ g2⟩;rw[g1,h1,q3];rfl
theorem D3 (W:WW) {I:Addr} {all:List HP} (hI:σ I=some (.list (all.map fun t=> .ref t.1))) (ht:∀t∈all,di σ t.1 t.2/\(t.2.map (·.n)).Nodup) (hz:nh all<=100000)
 (hq:∀F UH,σ.Sub UH->di UH F (iB [] (all.map (·.2)))->Q (.ref F) UH):aa (k+1) (.ref 828) [.ref I] σ Q X:=by
 show(af W wd (DJ W) rfl zd ?_).call;intro F ep hF;show eQ.of cw ((AS.UK (ez (aR hF hI))).trans hI) ?_;show HQ W hI hF all [] ep none none (by simpa using hz) ht aF fun x2 x3 ef' Ur h1 h2=>?_;have S:=AS.Sub.set (o:= .dict ef' (ag Ur)) hF;show hq F _ S ⟨ef',Ur,AS.UJ,fun x hx=>(h2 x hx).sub S,h1⟩
theorem Cu (W:WW) {I:Addr} {done:List nY} (hI:σ I=some (.list (done.map fun x=> .ref x.1))) (hs:kF σ done) (nd:∀x∈done,(x.2.2.rows.map (·.n)).Nodup) (hz:((done.map fun x=>x.2.2.rows.length).sum)<=100000) (hl:done.length<=1000)
 (hq:∀F UH,σ.Sub UH->di UH F (iB [] (done.map fun x=>x.2.2.rows))->Q (.ref F) UH):aa (k+2) (.ref 1669) [.ref I] σ Q X:=by
 show(af W jW (sU W) rfl zd ?_).call;show iO.of cw hI zm ?_;have loop:∀(rs:List nY) (Uq:List HP) (x:Option AV) (R:List AV->AS->Prop),(∀x∈rs,x∈done)->(∀ts:List HP,ts.map (·.2)=rs.map (fun x=>x.2.2.rows)->(∀t∈ts,di σ t.1 t.2/\(t.2.map (·.n)).Nodup)->R ((Uq++ts).map fun t=> .ref t.1) σ)->
  bN (gP) none gQ (fun σ=>σ I=some (.list (done.map fun x:nY=> .ref x.1))) (k+1) R (rs.map fun x=> .ref x.1) (Uq.map fun t=> .ref t.1) [x] σ:=by
  intro rs;induction rs with
  | nil=>intro Uq x R hm h;have:=h [] rfl aF;rw[Bo] at this;show this
  | cons y rs ih=>
   intro Uq x R hm h;show eg (hs y (hm y (.head _))) fun M E d q1 q2 q3=>?_;rw[dI];left;show AttrJ.of q1.i q1.n rfl zk rfl ?_;show⟨hI,?_⟩;have e:(Uq.map fun t:HP=>AV.ref t.1)++[.ref E]=(Uq++[((E,y.2.2.rows):HP)]).map fun t=> .ref t.1:=zs;change bN _ _ _ _ _ _ _ ((Uq.map fun t:HP=>AV.ref t.1)++[.ref E]) _ _;rw[e];show ih _ _ _ (fun z hz=>hm z (.tail _ hz)) fun ts h1 h2=>?_;have:=h ((E,y.2.2.rows)::ts) (by simp [h1]) fun t ht=>by
    rcases mV ht with rfl | ht
    . show⟨q2,nd y (hm y (.head _))⟩
    . show h2 t ht
   simpa using this
 show loop done [] none _ (fun _ h=>h) fun ts h1 h2 p hp=>?_;have S:=AS.Sub.set (o:= .list (ts.map fun t:HP=> .ref t.1)) hp;show D3 W (all:=ts) AS.UJ (fun t ht=>⟨(h2 t ht).1.sub S,(h2 t ht).2⟩) ?_ fun F UH S2 hF=>hq F UH (S.trans S2) (by rw[<-h1];show hF);have:nh ts=(done.map fun x=>x.2.2.rows.length).sum:=by
  unfold nh;have:=congrArg (List.map List.length) h1;rw[bq,bq] at this;show congrArg List.sum this
 lia
section
variable {A:Around} {E:Value->Shared->Prop} {h:Heap} {g:Array GenState} {d:Drawn} {t:Nat} {os:OsState} {a:Addr} {vs:Array Value} {n:Nat}
theorem JM:typeLookup (.type "list") "keys"=pure none:=by rw[typeLookup_type,Qc];kernel_rfl
theorem fu {M:Model} {α:Type} {s:Shared} {c:Bool} {x y:Sem α} {Q:α->Shared->Prop} (hc:c=false) (h:wpAny M A y Q E s):wpAny M A (if c=true then x else y) Q E s:=by rw[hc];show h
theorem D4 {args:List Value}:firstArgMember (.type "AttributeError") args=pure .none:=zk
theorem D5 {e:Addr} {p:Value} {oT:Value} {α:Type} {Q:α->Shared->Prop} (hH:A.handled=none) (he:h.get? e=some {cls:= .type "AttributeError",data:= .fields #[oT,.none,.none,.none,.bool false,.none,unsetMember,unsetMember]})
 (hq:∀h',Heap.ExtBut e h h'->(∃oe,h'.get? e=some oe/\oe.cls= .type "AttributeError")->E (.ref e) ⟨h',g,d,t+1,os⟩):
 wpAny (model Ω.p Ω.w) A (do noteAttr (.ref e) p (<-mkText "keys");raiseNew (.ref e):Sem α) Q E ⟨h,g,d,t,os⟩:=by
 have hT2:(⟨h,g,d,t+1,os⟩:Shared).TypeIs (.ref e) "AttributeError":=(aS _ he rfl);have f2:isSubtype (.type "AttributeError") (.type "AttributeError")=pure true:=by rw[isSubtype_type];kernel_rfl
 show aJ (wpAny_mkText ?_);show aJ ?_
 delta noteAttr
 show aJ ?_
 delta lacksNameAndObj
 show aJ (wpAny_isInstance hT2 f2 ?_);rw[dr zd];show aJ (wpAny_loadPart he ?_);dsimp only;show fu rfl (fu rfl ?_);show cS ?_;rw[eM rfl];show aJ (wpAny_rule ?_);show aJ (wpAny_typeOf hT2 ?_);dsimp only
 delta layMembers
 show aJ (wpAny_loadPart he ?_);show wpAny_updatePart he ?_;show wpAny_raiseNew_none hH (hq _ (Heap.SameBut.update _ _ _).extBut (aS _ (Heap.get?_update_self _ he rfl) rfl))
theorem D6 {tk:Tok} {Q:Fin->Shared->Prop} (hH:A.handled=none) (hx:h.get? a=some {cls:= .type "list",data:= .seq vs n})
 (hq:∀h' t' e,(∀b o,h.get? b=some o->h'.get? b=some o)->(∃oe,h'.get? e=some oe/\oe.cls= .type "AttributeError")->E (.ref e) ⟨h',g,d,t',os⟩):
 wpAny (model Ω.p Ω.w) A (Builtin.«object.__getattribute__» ⟨[.ref a,.str "keys" tk],[]⟩) Q E ⟨h,g,d,t,os⟩:=by
 have hT:(⟨h,g,d,t,os⟩:Shared).TypeIs (.ref a) "list":=(aS _ hx rfl);have f1:=JM
 repeat (any_goals (first | assumption | wp_step))
 delta raiseAttrError newExc newTuple
 show aJ (wpAny_mkStr ?_ (by rw[mU];show zy zk));show aJ (aJ ?_);show(wpAny_newObj_type ?_ (by change(1:Nat)<=sizeLine;rw[mU];show zy rfl));show aJ (m:=firstArgMember _ _) (LZ (a:=Value.none) D4 ?_);show wpAny_newObj_type ?_;generalize (Str.ofString _++_++_:Str)=msg;dsimp only;have hx2:∀tv:Obj,((h.push tv).push {cls:= .type "AttributeError",data:= .fields (#[.ref h.objs.size,.none,.none,.none,.bool false,.none]++ownMembersOf (.type "AttributeError") [.str msg t])}).get? (h.objs.size+1)=some {cls:= .type "AttributeError",data:= .fields #[.ref h.objs.size,.none,.none,.none,.bool false,.none,unsetMember,unsetMember]}:=fun tv=>by
  have:=zA (o:={cls:= .type "AttributeError",data:= .fields (#[.ref h.objs.size,.none,.none,.none,.bool false,.none]++ownMembersOf (.type "AttributeError") [.str msg t])}) (h.push tv) rfl
  rwa [Heap.size_push] at this
 have kp:∀(tv ev:Obj) b o,h.get? b=some o->((h.push tv).push ev).get? b=some o:=fun tv ev b o q=>qo _ (qo _ q);rw[Heap.size_push];have he:=hx2 {cls:= .type "tuple",data:= .seq #[.str msg t]};have hT2:(⟨(h.push {cls:= .type "tuple",data:= .seq #[.str msg t]}).push {cls:= .type "AttributeError",data:= .fields (#[.ref h.objs.size,.none,.none,.none,.bool false,.none]++ownMembersOf (.type "AttributeError") [.str msg t])},g,d,t+1,os⟩:Shared).TypeIs (.ref (h.objs.size+1)) "AttributeError":=(aS _ he rfl);have f2:isSubtype (.type "AttributeError") (.type "AttributeError")=pure true:=by rw[isSubtype_type];kernel_rfl
 show D5 hH he fun h' k e=>hq h' _ _ (fun b o q=>k b o (fun z=>by rw[z] at q;show absurd (va q) (Nat.not_lt.mpr (Nat.le_succ _))) (kp _ _ b o q)) e
theorem F8 {tk:Tok} {R:Result->Shared->Prop} (hH:A.handled=none) (hx:h.get? a=some {cls:= .type "list",data:= .seq vs n})
 (hq:∀h' t' e,(∀b o,h.get? b=some o->h'.get? b=some o)->(∃oe,h'.get? e=some oe/\oe.cls= .type "AttributeError")->R (.error (.ref e)) ⟨h',g,d,t',os⟩):
 codeAny (model Ω.p Ω.w) A (.call (.builtin "list.__getattribute__") ⟨[.ref a,.str "keys" tk],[]⟩) R ⟨h,g,d,t,os⟩:=
 codeAny_call_builtin PySem.F.slot_list_getattribute.plain PySem.F.entry_list_ga (PySem.F.slot_list_getattribute.check _ _ _ _ _ _ _ _ (show(⟨h,g,d,t,os⟩:Shared).TypeIs (.ref a) "list" from(aS _ hx rfl)) (PySem.F.args_list_getattribute_2 _ _) (D6 hH hx hq))
theorem F9 {Q:Option Value->Shared->Prop} (hH:A.handled=none) (hx:h.get? a=some {cls:= .type "list",data:= .seq vs n})
 (hq:∀h' t',(∀b o,h.get? b=some o->h'.get? b=some o)->Q none ⟨h',g,d,t',os⟩):wpAny (model Ω.p Ω.w) A (getAttr? (.ref a) "keys") Q E ⟨h,g,d,t,os⟩:=by
 have f2:=PySem.F.slot_list_getattribute.lookup;have f3:=PySem.F.slot_list_getattribute.bind (.ref a);have f4:typeLookup (.type "list") "__getattr__"=pure none:=by rw[typeLookup_type,Qc];kernel_rfl
 have f5:isSubtype (.type "AttributeError") (.type "AttributeError")=pure true:=by rw[isSubtype_type];kernel_rfl
 have hT:∀t,(⟨h,g,d,t,os⟩:Shared).TypeIs (.ref a) "list":=fun _=>(aS _ hx rfl)
 delta getAttr? getAttrBy?
 show aJ (wpAny_mkText (aJ (wpAny_attempt ?_)));have main:∀(t:Nat) (tk:Tok) (Q':Value->Shared->Prop) (E':Value->Shared->Prop),(∀h' t' e,(∀b o,h.get? b=some o->h'.get? b=some o)->(∃oe,h'.get? e=some oe/\oe.cls= .type "AttributeError")->E' (.ref e) ⟨h',g,d,t',os⟩)->
  wpAny (model Ω.p Ω.w) A (getAttrBy (.ref a) (.str "keys" tk) false) Q' E' ⟨h,g,d,t,os⟩:=by
  intro t tk Q' E' hE
  delta getAttrBy
  show Ez (aJ (wpAny_typeOf (hT t) ?_));rw[f2];show aJ (cS ?_);dsimp only;show fu (by rfl) ?_
  delta getAttrByItsOwn hookBefore
  show aJ ?_;show fu (by rfl) ?_;show cS ?_;show aJ (wpAny_attempt (Ez ?_))
  delta callGetattribute
  show fu (by rfl) ?_
  delta boundAndCalled
  show aJ ?_;rw[f3];show cS ?_;show wpAny_call (F8 (A:=A) hH hx fun h' t' e k ⟨oe,hoe,hce⟩=>?_);change wpAny _ _ (getattributeRaised _ _ _ _ _ _ _) _ _ _;have hT2:∀t,(⟨h',g,d,t,os⟩:Shared).TypeIs (.ref e) "AttributeError":=fun _=>(aS _ hoe hce)
  delta getattributeRaised
  show aJ (wpAny_isInstance (hT2 t') f5 ?_);rw[eM rfl]
  delta hookBehind
  show aJ ?_;show fu (by rfl) ?_;rw[f4];show cS ?_
  delta hookOrError
  dsimp only
  delta attributeErrorLeaves
  rw[eM (by rfl)];show aJ (wpAny_throw (hE h' t' e k ⟨oe,hoe,hce⟩))
 show main _ _ _ _ fun h' t' e k ⟨oe,hoe,hce⟩=>?_;have hT2:(⟨h',g,d,t',os⟩:Shared).TypeIs (.ref e) "AttributeError":=(aS _ hoe hce);dsimp only;show aJ (wpAny_isInstance hT2 f5 ?_);rw[eM rfl];show cS (hq h' t' k)
end
theorem AS.setset {σ:AS} {a:Addr} {x y:AO}:(σ.set a x).set a y=σ.set a y:=funext fun b=>by
 by_cases e:b=a
 . rw[e,AS.UJ,AS.UJ]
 . rw[AS.UK e,AS.UK e,AS.UK e]
theorem jb:entryFor table "dict.update.loop"=some Builtin.«dict.update.loop»:=entryFor_of_tree zk
section
variable {A:Around} {E:Value->Shared->Prop}
noncomputable abbrev DP:=Addr×AK×AV
noncomputable def dE (Uq:List (AK×AV)) (ps:List DP):List (AK×AV):=ps.foldl (fun Uq x=>iH Uq x.2.1 x.2.2) Uq
theorem HR {xs:List (AK×AV)} {x:AK} {v:AV}:(iH xs x v).length<=xs.length+1:=by
 unfold iH;split<;>simp
theorem za:∀(ps:List DP) (Uq:List (AK×AV)),(dE Uq ps).length<=Uq.length+ps.length
 | [],Uq=>Nat.le_refl _
 | x::r,Uq=>by
  have:=za r (iH Uq x.2.1 x.2.2);have:= @HR Uq x.2.1 x.2.2;change(dE (iH Uq x.2.1 x.2.2) r).length<=_;rw[fF];lia
theorem Cv {Up:List Env} {g:Fz} {D I:Addr} {ps:List DP} {It:Addr->Nat->Heap->Prop} {alive:AS->Prop} {R:Result->Shared->Prop} (hH:A.handled=none) (O:eD Ω.b Up g) (S:MG alive (ps.map fun x=> .ref x.1) It) (hal:∀ep xs,alive (σ.set D (.dict ep xs)))
 (hD:σ D=none) (hI:σ I=none) (hne:I≠D) (gI:g.f I=none) (ht:∀x∈ps,tu Ω σ x.1 (.tup [x.2.1.av,x.2.2])) (hz:ps.length<=1000)
 (hR:∀ep s',RS Ω.p Ω.w g (σ.set D (.dict ep (dE [] ps))) s'->R (.ok (.ret .none)) s'):∀(n i ep:Nat) (s:Shared) (tk:Tok),ps.length-i=n->i<=ps.length->RS Ω.p Ω.w g (σ.set D (.dict ep (dE [] (ps.take i)))) s->It I i s.heap->
 codeAny (model Ω.p Ω.w) A (.builtin "dict.update.loop" ⟨[.ref D,.ref I,.int i tk,.none],[]⟩) R s:=by
 intro n;induction n with
 | zero=>
  intro i ep s tk hn hi rs it;have e:i=ps.length:=zo;subst e;show codeAny_builtin jb ?_;unfold Builtin.«dict.update.loop»;dsimp only;rw[List.take_length] at rs;show aJ (S.done _ Up g I s _ _ _ hH O rs ((AS.UK hne).trans hI) (hal _ _) (by rw[a9];show it) fun h' tk' eb=>?_);show aJ (cS ?_);show cS ?_;show hR ep _ (rs.but gI ((AS.UK hne).trans hI) eb)
 | succ n ih=>
  intro i ep s tk hn hi rs it;have lt:i<ps.length:=zo;show codeAny_builtin jb ?_;unfold Builtin.«dict.update.loop»;dsimp only;have hx:(ps.map fun x:DP=>AV.ref x.1)[i]?=some (.ref ps[i].1):=by rw[nG,Bf lt];rfl
  show aJ (S.next _ Up g I i s _ _ _ _ hH O rs ((AS.UK hne).trans hI) (hal _ _) it hx fun v h' tk' ev it' eb=>?_);rw[ah ev];have rs1:RS Ω.p Ω.w g (σ.set D (.dict ep (dE [] (ps.take i)))) {s with heap:=h',toks:=tk'}:=rs.but gI ((AS.UK hne).trans hI) eb;dsimp only;have hm:ps[i]∈ps:=List.getElem_mem lt;have hT:tu Ω (σ.set D (.dict ep (dE [] (ps.take i)))) ps[i].1 (.tup [ps[i].2.1.av,ps[i].2.2]):=by
   rcases ht _ hm with h | h
   . show .inl ((AS.UK (fun z=>by rw[z,hD] at h;cases h)).trans h)
   . show .inr h
  show bQ (cu rs1 O hT) fun vs nn hvs hve=>?_;show aH (GI hve) fun u1 u2 e1 hu1 hu2=>?_;show aJ (Ez ?_);show aJ (wpAny_tryCatch ?_);unfold Builtin.Dict.pairItems;show aJ (wpAny_typeOf (T:="tuple") (aS _ hvs rfl) ?_);show aJ (wpAny_seqItems hvs rfl ?_);show cS ?_;change wpAny _ _ (match vs.toList with | [k,v]=>holding [k,v] (dictSet D k v) | l=>_) _ _ _;rw[e1];show po (co rs1 O AS.UJ) fun kvs hd he hg hm2=>?_;show Ez (wpAny_dictSet_pairs (AK.key _ hu1) hd.dictOf (fun h'' hd' sb=>?_) ?_)
  . show aw hd'.dictAt fun ep' hd'=>?_;show ae (ke hd' (vw kvs ps[i].2.1 u2)) fun ob ho hof=>?_;rw[he,hu2] at hof;have rs2:=rs1.put (s':={heap:=h'',gens:=s.gens,drawn:=s.drawn,toks:=tk'+1,os:=s.os}) hg sb.extBut ho hof;rw[AS.setset] at rs2;have e3:iH (dE [] (ps.take i)) ps[i].2.1 ps[i].2.2=dE [] (ps.take (i+1)):=by
     unfold dE;rw[<-List.take_append_getElem lt,List.foldl_append];rfl
    rw[e3] at rs2;show cS ⟨Code.quiet_builtin _ (by decide+kernel),?_⟩;show ih (i+1) ep' _ 0 zo zo rs2 (S.at_ I (i+1) _ _ it' fun o q=>sb.extBut I o hne q)
  . have h1:kvs.length=(dE [] (ps.take i)).length:=by rw[<-he,a9]
    have h2:=za (ps.take i) [];rw[List.length_take] at h2;have h3:([]:List (AK×AV)).length=0:=rfl;rw[h1,mU];lia
theorem jy {p:Addr} {ps:List DP} (h:σ p=some (.list (ps.map fun x=> .ref x.1))) (ht:∀x∈ps,tu Ω σ x.1 (.tup [x.2.1.av,x.2.2])) (hz:ps.length<=1000) (hq:∀r ep,σ r=none->Q (.ref r) (σ.set r (.dict ep (dE [] ps)))):aa k (.typ "dict") [.ref p] σ Q X:=by
 show⟨fun A Up g s fv vv hA hH R O rs hf hv=>?_⟩;rw[eO hf];show ae (xn hv) fun a hr1 ha=>?_;rw[hr1];rw[ah ha];show callType_codes (Q₁:=fun obj UB=>obj= .ref s.heap.objs.size/\UB={s with heap:=s.heap.push {cls:= .type "dict",data:= .dict #[]}}) PySem.F.kt_called_dict (PySem.F.kt_typeCall_dict_1 _) PySem.F.entry_dict_init (kt_code_dict_new _ ⟨rfl,rfl⟩) ?_;rintro obj UB ⟨rfl,rfl⟩;have hnew:(s.heap.push {cls:= .type "dict",data:= .dict #[]}).DictOf (bS Ω.p Ω.w) s.heap.objs.size []:=Heap.DictOf.new s.heap;have fr:=rs.free;have r1:RS Ω.p Ω.w g (σ.set s.heap.objs.size (.dict 0 [])) {s with heap:=s.heap.push {cls:= .type "dict",data:= .dict #[]}}:=by
  show aw hnew.dictAt fun ep hd=>?_;show ae (ke hd (xs:=[]) rfl) fun ob ho hof=>?_;have e0:ep=0:=by
   show I0 hd fun o es q1 q2 q3 _=>?_;have:=zA (o:={cls:= .type "dict",data:= .dict #[]}) s.heap rfl;rw[this] at q1;cases q1;cases q3;rfl
  subst e0;show rs.new (a7 _) (fun b o e=>qo _ e) ho hof
 show⟨hnew.typeIs,PySem.F.args_dict_init_2 _ _,?_⟩;unfold Builtin.«dict.__init__»;show aJ ?_;unfold Builtin.Dict.selfAndRest;show aJ (wpAny_notOrdered_dict hnew.typeIs ?_);change wpAny _ _ (pure (s.heap.objs.size,[Value.ref p])) _ _ _;show cS ?_;change wpAny _ _ (Builtin.Dict.updateFrom "dict.__init__" s.heap.objs.size (.ref p) [] .none) _ _ _;have hp1:(σ.set s.heap.objs.size (.dict 0 [])) p=some (.list (ps.map fun x=> .ref x.1)):=(AS.UK (fun z=>by rw[z,fr] at h;cases h)).trans h;show aH (aZ r1 hp1) fun vs nn hvs hve _=>?_;unfold Builtin.Dict.updateFrom;show aJ (wpAny_typeOf (T:="list") (aS _ hvs rfl) ?_);rw[eM zd];show aJ (F9 hH hvs fun h' t' k=>?_);rw[eM (show(none:Option Value).isNone=true from rfl)];show aJ (wpAny_rule ?_);have r2:RS Ω.p Ω.w g (σ.set s.heap.objs.size (.dict 0 [])) ⟨h',s.gens,s.drawn,t',s.os⟩:=r1.ext k;show ae ((cw (p:=p) (xs:=ps.map fun x:DP=> .ref x.1)).run) fun It S mk=>?_;show aJ (mk _ Up g _ _ (.ref p) _ _ hH O r2 hp1 rfl fun h'' tk it kp=>?_);have hne:h'.objs.size≠s.heap.objs.size:=fun z=>by
  have:=k s.heap.objs.size _ (zA (o:={cls:= .type "dict",data:= .dict #[]}) s.heap rfl);show absurd (va this) (by rw[z];show Nat.lt_irrefl _)
 have hIn:h'.get? h'.objs.size=none:=a7 _;have hI2:=r2.free_of hIn;show cS ?_;show⟨Code.quiet_builtin _ (by decide+kernel),?_⟩;show Cv (A:=A.in1) (σ:=σ) (Up:=Up) (g:=g) (ps:=ps) hH O S (fun ep xs=>(AS.UK (fun z=>by rw[z,fr] at h;cases h)).trans h) fr ((AS.UK hne).symm.trans hI2) hne (r2.none_of hIn) ht hz (fun ep s' r'=>?_) ps.length 0 0 ⟨h'',s.gens,s.drawn,tk,s.os⟩ 0 zo zo (r2.ext kp) it;show⟨rfl,_,r',hq _ ep fr⟩
end
theorem wM:Slot "bytes" "rfind" "bytes.rfind":=
 .of (owner:="bytes") (n:="rfind") (by rw[typeLookup_type,Qc];kernel_rfl) (by decide+kernel) (by decide+kernel) (by decide+kernel)
  (by first | show .inl (by decide+kernel) | show .inr (by decide+kernel)) (by rw[isSubtype_type];kernel_rfl)
theorem Cw:entryFor table "bytes.rfind"=some Builtin.«bytes.rfind»:=entryFor_of_tree zk
theorem D7 (a b c d:Value):argsOk "bytes.rfind" ⟨[a,b,c,d],[]⟩:=by delta argsOk;kernel_rfl
section
variable {A:Around} {E:Value->Shared->Prop} {s:Shared}
theorem zb {M:Model} {n:Int} {t:Tok} {Q:Option Int->Shared->Prop} (h:Q (some n) s):wpAny M A (Builtin.Bytes.bound? (some (.int n t))) Q E s:=by
 delta Builtin.Bytes.bound?
 show aJ (wpAny_specialOf (name:=Str.ofString "__index__") (typeIs_int s n t) PySem.F.slot_int_index.lookup ?_);show fu (by rfl) ?_
 delta asIndex
 repeat (any_goals (first | assumption | wp_step))
theorem AU {M:Model} {id:String} {x:Array UInt8} {t:Tok} {Q:Option (Array UInt8)->Shared->Prop} (h:Q (some x) s):wpAny M A (Builtin.Bytes.buffer? id (.bytes x t)) Q E s:=by
 have f2:typeLookup (.type "bytes") "__buffer__"=pure (some (.builtin "bytes.__buffer__")):=by rw[typeLookup_type,Qc];kernel_rfl
 delta Builtin.Bytes.buffer?
 show aJ (wpAny_specialOf (name:=Str.ofString "__buffer__") (typeIs_bytes s x t) f2 ?_);dsimp only;show aJ ?_
 repeat (any_goals (first | assumption | wp_step))
 show fu (by decide+kernel) ?_;rw[show("bytes.__buffer__".dropRight ("__buffer__".length+1))="bytes" by decide+kernel];show wpAny_isInstance (typeIs_bytes s x t) (by rw[isSubtype_type];kernel_rfl:isSubtype (.type "bytes") (.type "bytes")=pure true) ?_;show fu (by rfl) ?_;show aJ (wpAny_specialOf (name:=Str.ofString "__buffer__") (typeIs_bytes s x t) f2 ?_);have f3:typeLookup (.type "bytes") "__release_buffer__"=pure none:=by rw[typeLookup_type,Qc];kernel_rfl
 change wpAny _ _ (Builtin.Bytes.ownRelease (.bytes x t)>>=_) _ _ _
 delta Builtin.Bytes.ownRelease
 repeat (any_goals (first | assumption | wp_step))
theorem HS {b x:Array UInt8} {n:Int} {t1 t2 t3 t4:Tok} {Q:PySem.Fin->Shared->Prop} (hn:n=b.size) (hx:x.size<=b.size) {p:Nat} (hp:Builtin.Bytes.rfind? b x 0 b.size=some p) (h:∀t tk,Q (.done (.ret (.int p t))) {s with toks:=tk}):
 wpAny (model Ω.p Ω.w) A (Builtin.«bytes.rfind» ⟨[.bytes b t1,.bytes x t2,.int 0 t3,.int n t4],[]⟩) Q E s:=by
 obtain⟨hh,g,d,t,os⟩:=s
 delta Builtin.«bytes.rfind» Builtin.Bytes.searchM Builtin.Bytes.searchArgs
 show aJ (aJ ?_)
 delta selfAndSome
 show aJ (LZ (a:=()) zk ?_);show aJ (LZ (a:=()) zk ?_);show cS ?_;dsimp only;show aJ (zb ?_);show aJ (zb ?_);show aJ (AU ?_);dsimp only;show aJ (cS ?_);show aJ ?_
 delta Builtin.Bytes.payload Builtin.Bytes.payload?
 dsimp only;show aJ (cS ?_);show cS ?_;have hw:Builtin.Bytes.window b.size (some 0) (some n)=(0,(b.size:Int)):=by
  rw[hn]
  delta Builtin.Bytes.window
  have e:min (b.size:Int) (if (b.size:Int)<0 then max 0 ((b.size:Int)+b.size) else b.size)=b.size:=by
   rw[dr zo];lia
  simpa using e
 rw[hw];dsimp only;rw[dr zo];show cS ?_;dsimp only;rw[show((b.size:Int).toNat)=b.size by lia,show((0:Int).toNat)=0 from rfl,Option.bind_some];dsimp only;rw[eM rfl,hp];dsimp only
 delta retInt
 show aJ (wpAny_mkInt (cS (h _ _)))
end
theorem zc {f:Nat->Bool} {p:Nat} (hf:f p=true):∀N,p<N->(∀i,p<i->i<N->f i=false)->((List.range N).map (· +0)).reverse.find? f=some p
 | 0,h,_=>absurd h (Nat.not_lt_zero _)
 | N+1,h,hl=>by
  rw[List.range_succ,pj,List.reverse_append];change(N::_).find? f=_;rw[List.find?_cons];by_cases e:N=p
  . subst e;rw[hf]
  . rw[hl N zo zo];show zc hf N zo fun i h1 h2=>hl i h1 zo
theorem HT {D x y:LU} {p:Nat} (hd:D.drop p=x++y) (hx:x≠[]) (hl:∀i,p<i->x.isPrefixOf (D.drop i)=false) (hq:Q (.int p) σ):aa k (.fn "bytes.rfind") [.bytes D,.bytes x,.int 0,.int D.length] σ Q X:=by
 show⟨fun A Up g s fv vv hA hH R O rs hf hv=>?_⟩;rw[dL hf];obtain⟨u1,u2,u3,u4,rfl⟩:∃u1 u2 u3 u4,vv=[u1,u2,u3,u4]:=by
  rcases vv with _ | ⟨u1,_ | ⟨u2,_ | ⟨u3,_ | ⟨u4,_ | ⟨u5,r⟩⟩⟩⟩⟩<;>simp at hv;show⟨u1,u2,u3,u4,rfl⟩
 simp only [dI,EA,List.cons.injEq,and_true] at hv;show ux hv fun e1 e2 e3 e4=>?_;show aw (cN e1) fun t1 hr1=>?_;rw[hr1];show aw (cN e2) fun t2 hr1=>?_;rw[hr1];show aw (aI e3) fun t3 hr1=>?_;rw[hr1];show aw (aI e4) fun t4 hr1=>?_;rw[hr1];have hp:p<D.length:=by
  have:=congrArg List.length hd;have h0:x.length≠0:=fun e=>hx (List.length_eq_zero_iff.mp e);rw[Fl,j7] at this;lia
 have hle:p+x.length<=D.length:=by
  have:=congrArg List.length hd;rw[Fl,j7] at this;lia
 have ext:∀i,(D.toArray.extract i (i+x.length)==x.toArray)=decide ((D.drop i).take x.length=x):=fun i=>by
  rw[Bool.eq_iff_iff];simp
 show wpAny_call_entry wM (typeIs_bytes _ _ _) Cw (HS (p:=p) zs zu ?_ fun t tk=>⟨_,rfl,σ,rs.tok,hq⟩) (D7 _ _ _ _)
 delta Builtin.Bytes.rfind?
 simp only [No];show zc ?_ _ zo fun i h1 h2=>?_
 . rw[ext,hd];simp
 . rw[ext];show uw fun e=>?_;have:=hl i h1;rw[Bool.eq_false_iff] at this;show this (QW.mpr ⟨(D.drop i).drop x.length,(congrArg (· ++(D.drop i).drop x.length) e).symm.trans (List.take_append_drop _ _)⟩)
section
variable {M:Model} {A:Around} {E:Value->Shared->Prop} {s:Shared}
theorem s6 (id:String) (self:Value) (x:Str) (errors:Option Str):Builtin._codecs.encodeRoad id self x (Str.ofString "ascii") errors=(do mkBytes (<-Builtin._codecs.encodeNarrow id Builtin._codecs.asciiCodec errors self x)):=by
 first | rfl | (unfold Builtin._codecs.encodeRoad;rfl) | (unfold Builtin._codecs.encodeRoad;simp only [];rfl) | decide
theorem AW (x:Str) (t u:Tok):Builtin.«str.encode» ⟨[.str x t,.str (Str.ofString "ascii") u],[]⟩=(do ret (<-Builtin._codecs.encodeRoad "str.encode" (.str x t) x (Str.ofString "ascii") none)):=by
 first | rfl | kernel_rfl
theorem Uc {β:Type} {Q:β->Shared->Prop} {f:Nat->β->Sem (ForInStep β)} {b b1:β} (n:Nat) (h0:∀Q,Q (.yield b1) s->wpAny M A (f 0 b) Q E s) (h1:0<n->∀Q,Q (.done b1) s->wpAny M A (f 1 b1) Q E s) (hq:Q b1 s):wpAny M A (forIn (List.range' 0 (n+1)) b f) Q E s:=by
 rw[List.range'_succ,List.forIn_cons];show aJ (h0 _ ?_);cases n with
 | zero=>show cS hq
 | succ n=>
  change wpAny M A (forIn (List.range' 1 (n+1)) b1 f) Q E s;rw[List.range'_succ,List.forIn_cons];show aJ (h1 (Nat.succ_pos _) _ (cS hq))
theorem Ga (l:List Nat) (Uq:Array UInt8):l.foldl (fun Uq y=>Uq++(Builtin._codecs.asciiCodec.bytesOf y).toArray) Uq=Uq++(l.map (·.toUInt8)).toArray:=by
 induction l generalizing Uq with
 | nil=>simp
 | cons c l ih=>rw[List.foldl_cons,ih];simp [Builtin._codecs.asciiCodec]
theorem M4 {id:String} {self:Value} {x:Str} {Q:Array UInt8->Shared->Prop} (hg:∀c∈x.cps,c<128) (hz:x.length<=1000) (h:Q (x.cps.map (·.toUInt8)) s):wpAny M A (Builtin._codecs.encodeNarrow id Builtin._codecs.asciiCodec none self x) Q E s:=by
 have hout:Array.foldl (fun Uq y=>Uq++(Builtin._codecs.asciiCodec.bytesOf y).toArray) #[] (x.cps.extract 0 x.cps.size)=x.cps.map (·.toUInt8):=by
  rw[Array.extract_size,<-Array.foldl_toList,Ga,Array.empty_append,<-Array.toList_map]
 have hbad:∀c∈x.cps,Builtin._codecs.asciiCodec.bad c=false:=fun c hc=>uw (Nat.not_le.mpr (hg c hc))
 delta Builtin._codecs.encodeNarrow
 dsimp only;show aJ ?_;rw[Std.Legacy.Range.forIn_eq_forIn_range'];simp only [Std.Legacy.Range.size,Nat.sub_zero,Nat.add_sub_cancel,Nat.div_one];cases hn:x.length with
 | zero=>
  have h0:x.cps= #[]:=Array.eq_empty_of_size_eq_zero hn;rw[h0] at h;show cS (cS (by simpa using h))
 | succ n=>
  have hsz:x.cps.size=n+1:=hn;show Uc (b1:=(x.cps.size,x.cps.map (·.toUInt8),{})) n (fun Q q=>?_) (fun hp Q q=>?_) (cS h)
  . dsimp only;rw[dr (by rw[mU];decide),Array.getElem?_eq_getElem (hsz▸Nat.succ_pos n)];dsimp only;rw[hbad _ (Array.getElem_mem _),eM (show(!false)=true from rfl),Array.extract_size,Array.findIdx?_eq_none_iff.mpr hbad,Option.getD_none,hout,Nat.zero_add];show cS q
  . dsimp only;rw[dr (by rw[mU,Array.size_map];have:x.cps.size=x.length:=rfl;lia),Array.getElem?_eq_none (Nat.le_refl _)];show cS q
end
theorem s7 {x:Str} (hg:∀c∈x.cps,c<128) (hz:x.length<=1000) (hq:Q (.bytes (x.cps.toList.map (·.toUInt8))) σ):aa k (.fn "str.encode") [.str x,.str "ascii"] σ Q X:=by
 show⟨fun A Up g s fv vv hA hH R O rs hf hv=>?_⟩;rw[dL hf];show aH (GI hv) fun u1 u2 hr2 h1 h2=>?_;rw[hr2];show aw (db h1) fun t1 hr1=>?_;rw[hr1];show aw (db h2) fun t2 hr1=>?_;rw[hr1];show wpAny_call_entry PySem.F.slot_str_encode (typeIs_str _ _ _) PySem.F.entry_str_encode ?_ (PySem.F.args_str_encode_2 _ _);rw[AW,s6];show aJ (aJ (M4 hg hz ?_));show wpAny_mkBytes ?_ (by rw[Array.size_map,mU];have:x.cps.size=x.length:=rfl;lia);show cS ⟨_,rfl,σ,rs.tok,?_⟩;change Q (.bytes (x.cps.map (·.toUInt8)).toList) σ;rw[Array.toList_map];show hq
theorem mH {x:Str} {Q:AV->List AV->Prop} (hq:Q (.fn "str.encode") [.str x]):kP (.str x) "encode" σ Q:=ij EE PySem.F.plainAttrs_str PySem.F.slot_str_encode PySem.F.type_str_encode hq
theorem HU {x:Str} (ha:x.cps.all (· <128)=true):gv (.str x) (fun _=>True) (x.cps.toList.map fun c=> .str ⟨#[c]⟩):=by
 show⟨fun I i h=>∃t,h.IsStrIter I "str_ascii_iterator" x t i,⟨fun I i h h' ⟨t,o,ho,r⟩ e=>⟨t,o,e o ho,r⟩,fun I i h ⟨t,o,ho,_⟩=>⟨o,ho⟩,fun A target v I i s Q E ⟨t,o,ho,hc,_⟩ q=>jD ho hc zd q,fun A I i s Q E ⟨t,it⟩ q=>wpAny_pyIter_striter_ascii it q,?_,?_⟩,?_⟩
 . intro A Up g I i s σ y Q E hH O rs hI al ⟨t,it⟩ hx hQ;rw[nG] at hx;cases q:x.cps.toList[i]? with
   | none=>rw[q] at hx;cases hx
   | some c=>
    rw[q] at hx;show wpAny_pyNext_ascii_item it (c:=c) (by simpa using q) fun h' it' sb=>hQ _ h' _ (by rw[<-ql hx];rfl) ⟨t,it'⟩ sb.extBut
 . intro A Up g I s σ Q E hH O rs hI al ⟨t,it⟩ hQ;show wpAny_pyNext_ascii_end hH it zs fun h' eb=>hQ h' s.toks eb
 . intro A Up g s σ u Q E hH O rs al e hQ;show aw (db e) fun t hr1=>?_;rw[hr1];show wpAny_pyIter_ascii ha (hQ _ s.toks ⟨t,_,zA _ rfl,rfl,rfl⟩ fun b o q=>qo _ q)
theorem Gb {p:Addr} {xs:List AV} (h:σ p=some (.list xs)) (hz:xs.length<=1000000) (hq:∀r,σ r=none->Q (.ref r) (σ.set r (.list xs.reverse))):ik k (.ref p) .none .none (.int (-1)) σ Q X:=by
 show⟨"list",_,jC h,list_getitem_lookup,fun u l hh t sl A Up g s hu hb hc hd hH O rs hs=>?_⟩;rw[ah hu];show aH (aZ rs h) fun vs nn hvs hve _=>?_;have hl:=aj hve;show aw (aI hd) fun tk hr1=>?_;subst hr1;rw[dU hb,dU hc] at hs;show wpAny_getItem_list_slice (lo:=none) (hi:=none) (st:=some (-1)) hvs.isList hs .none .none (.int _ tk) zd ?_ (by rw[hl,mU];lia);show⟨_,rs.alloc rfl (dW (xs:=xs.reverse) ?_),hq _ rs.free⟩;rw[krv_pick];change(vs.toList.reverse).map er=_;rw[List.map_reverse,hve]
theorem HV {p:Addr} {ss:List Str} {x:Str} {j:Nat} (h:σ p=some (.list (ss.map .str))) (hz:ss.length<=1000) (hj:ss[j]?=some x) (hn:∀i,i<j->ss[i]?≠some x) (hq:Q (.int j) σ):aa k (.fn "list.index") [.ref p,.str x] σ Q X:=by
 show⟨fun A Up g s fv vv hA hH R O rs hf hv=>?_⟩;rw[dL hf];show aH (GI hv) fun u1 u2 hr2 h1 h2=>?_;rw[hr2];rw[ah h1];show aw (db h2) fun t2 hr1=>?_;rw[hr1];show aH (aZ rs h) fun vs nn hvs hve _=>?_;have hl:=aj hve;rw[a9] at hl;have el:∀i,∀hi:i<vs.size,∃y t,vs[i]= .str y t/\ss[i]?=some y:=fun i hi=>by
  have e:=congrArg (·[i]?) hve;simp only [nG] at e;rw[GF,Array.getElem?_eq_getElem hi] at e;cases q:ss[i]? with
  | none=>rw[q] at e;cases e
  | some y=>
   rw[q] at e;show aw (db (ql e)) fun t ht=>?_;show⟨y,t,ht,rfl⟩
 have hjl:j<vs.size:=by rw[hl];show(LX.mp hj).1
 let e:Value->Bool:=fun v=>match v with | .str y _=>y==x | _=>false
 show call_meets PySem.F.slot_list_index (aS _ hvs rfl) PySem.F.entry_list_index (PySem.F.args_list_index_2 _ _) (PySem.SeqAt.list_indexAt p vs nn none #[] (.str x t2) e j hjl zo ?_ fun m hm hmj=>?_) ⟨hvs,fun y hy=>?_,σ,rs.tok,hq⟩
 . show bQ (el j hjl) fun y t e1 e2=>?_;rw[e1];change(y==x)=true;rw[e2] at hj;simpa using hj
 . show bQ (el m hm) fun y t e1 e2=>?_;rw[e1];change(y==x)=false;rw[xg];intro z;show hn m hmj (by rw[e2,z])
 . obtain⟨i,hi,rfl⟩:=Array.mem_iff_getElem.mp hy;show bQ (el i hi) fun y t e1 e2=>?_;rw[e1];show PySem.SeqAt.EqAt.str_str y t x t2
theorem D8 {p:Addr} {xs:List AV} {Q:AV->List AV->Prop} (h:σ p=some (.list xs)) (hq:Q (.fn "list.index") [.ref p]):kP (.ref p) "index" σ Q:=ij (jC h) PySem.F.plainAttrs_list PySem.F.slot_list_index PySem.F.type_list_index hq
noncomputable abbrev HW (n:Nat):Str:=⟨(List.replicate n 48).toArray⟩
theorem ze {n:Int} (hlo: -1000<=n) (hhi:n<=1000) (hq:Q (.str (HW n.toNat)) σ):cj k (binaryOp .Mult) (.str "0") (.int n) σ Q X:=by
 show⟨fun u v hu hv=>⟨fun A Up g s hA hH R O rs=>?_⟩⟩;show aw (db hu) fun t1 hr1=>?_;subst hr1;show aw (aI hv) fun t2 hr1=>?_;subst hr1;have hlen:(("0":Str)).length=1:=rfl;show P.mul_str (by rw[uw zo,uw zo];rfl) (fun _ _=>?_) (fun _ _=>?_) ?_
 . rw[hlen];have h1:¬n<1:=by assumption
   have:(1:Int)<=(2^63-1)/n:=by
    rw[Int.le_ediv_iff_mul_le zo];lia
   lia
 . rw[hlen,Nat.one_mul];show uw ?_;rw[mU];lia
 . by_cases h1:n<1
   . rw[eM h1];have e:n.toNat=0:=zo;rw[e] at hq;show⟨zd,σ,rs.tok,hq⟩
   . rw[dr h1];by_cases h2:n=1
     . subst h2;show(aS σ rs.tok hq)
     . rw[dr (by simp [h2,hlen])];have e:∀(m:Nat) (Uq:Array Nat),(List.replicate m (#[48]:Array Nat)).foldl (· ++ ·) Uq=Uq++(List.replicate m 48).toArray:=by
        intro m;induction m with
        | zero=>intro Uq;simp
        | succ m ih=>intro Uq;rw[List.replicate_succ,List.foldl_cons,ih,List.replicate_succ];show Array.ext' zs
       have e2:(⟨(List.replicate n.toNat ("0":Str).cps).foldl (· ++ ·) #[]⟩:Str)=HW n.toNat:=by
        change(⟨(List.replicate n.toNat (#[48]:Array Nat)).foldl (· ++ ·) #[]⟩:Str)=_;rw[e];simp
       rw[e2];show⟨?_,σ,rs.tok,hq⟩;change(List.replicate n.toNat 48).toArray.size<=sizeLine;rw[No,List.length_replicate,mU];lia
theorem JN {vs:List Value} {ns:List Str} (h:StrsAre vs ns):vs.map er=ns.map .str:=by
 induction h with
 | nil=>rfl
 | cons n t _ ih=>rw[dI,dI,ih];rfl
set_option maxHeartbeats 1000000 in
theorem wN {d:Addr} {ep:Nat} {ys:List (Str×AV)} (h:σ d=some (.dict ep (ys.map fun y=>(.s y.1,y.2)))) (hz:ys.length<64) (hq:∀(r:Addr) (ss:List Str),σ r=none->ss.Perm (ys.map (·.1))->sortedS ss=true->Q (.ref r) (σ.set r (.list (ss.map .str)))):aa k (.fn "sorted") [.ref d] σ Q X:=by
 show⟨fun A Up g s fv vv hA hH R O rs hf hv=>?_⟩;rw[dL hf];show ae (xn hv) fun a hr1 ha=>?_;rw[hr1];rw[ah ha];show po (co rs O h) fun kvs hd he hg hm=>?_;have hs:kvs.length=ys.length:=by have:=congrArg List.length he;rw[a9,a9] at this;show this
 show Calls.call_function_entry kind_sorted plain_sorted entry_sorted (args_sorted1 _) ?_
 delta Builtin.«sorted»
 show aJ (m:=checkCount "sorted" 1 1 _) (cS ?_);show aJ (kdu_collect (A:=A.in1) (kdl_dict (knd:=bS Ω.p Ω.w) (kvs:=kvs) (ep:=ep) hm) hH hd (by rw[hs,mU];lia) fun h' tk Uq hk hacc=>?_);show aL hacc fun h1 h2=>?_;have hl:Uq.toList.length=ys.length:=by rw[Array.length_toList,h1,hs]
 have hS:StrsAre Uq.toList (ys.map (·.1)):=by
  show zR (List.ext_getElem? fun i=>?_);rw[nG,nG,nG,GF];cases q:Uq[i]? with
  | none=>
   have:ys[i]?=none:=by rw[List.getElem?_eq_none_iff];rw[Array.getElem?_eq_none_iff] at q;lia
   rw[this];rfl
  | some v=>
   show bQ (h2 i v q) fun x y e1 e2=>?_;have e3:=congrArg (·[i]?) he;simp only [nG,e1] at e3;cases q2:ys[i]? with
   | none=>rw[q2] at e3;cases e3
   | some z=>
    rw[q2] at e3;have e4:x= .s z.1:=congrArg Prod.fst (ql e3);subst e4;change some (er v)=some (.str z.1);have e5:er v=(AK.s z.1).av:=AK.is_er e2;rw[e5];rfl
 show aJ (wpAny_newList ?_ (by rw[hl,mU];lia));have hoL:(h'.push (seqObj "list" Uq.toList.toArray 0)).get? h'.objs.size=some (seqObj "list" Uq.toList.toArray 0):=zA _ rfl;show aJ (Ez (wpAny_call_entry slot_list_sort (aS _ hoL rfl) entry_list_sort (list_sort_treeK strKind_oneLt hoL hS.keysOf (fun v₁ v₂ Us e=>keyKind_strs (by rw[<-e];show hS)) (by rw[hl];show hz) fun st' hp hs'=>(aS _ rfl ?_)) (args_list_sort _)));show j8 (sorted_out_str hS hp hs') fun ss g1 g2 g3=>?_;show aw (sortedHeap_at (out:=(arrOf st').map (·.2)) hoL) fun e he'=>?_;show cS (aS _ rfl ?_);have hn:s.heap.get? h'.objs.size=none:=by
  cases q:s.heap.get? h'.objs.size with
  | none=>rfl
  | some o=>show absurd (va (hk _ _ q)) (Nat.lt_irrefl _)
 show(aS _ (rs.new hn (fun b o q=>?_) he' (dW (JN g1))) (hq _ ss (rs.free_of hn) g2 g3));have lt:=va (hk _ _ q);show(sortedHeap_old (Nat.ne_of_lt lt) (by rw[Heap.size_push];show Nat.lt_succ_of_lt lt)).trans (qo _ (hk _ _ q))
noncomputable def az (n:Nat):LU:=(Nat.toDigits 10 n).map fun c=>c.toNat.toUInt8
theorem pc {n:Nat} (h:n<10):n.digitChar.toNat=48+n:=by
 have:∀n:Fin 10,(n.val).digitChar.toNat=48+n.val:=zd;show this ⟨n,h⟩
theorem EY {n:Nat} (h:n<10):az n=[(48+n).toUInt8]:=by
 delta az
 rw[Nat.toDigits_of_lt_base h];change[n.digitChar.toNat.toUInt8]=_;rw[pc h]
theorem EZ {n:Nat} (h:10<=n):az n=az (n/10)++[(48+n%10).toUInt8]:=by
 delta az
 rw[Nat.toDigits_of_base_le zd h,pj];change _++[(n%10).digitChar.toNat.toUInt8]=_;rw[pc (Nat.mod_lt n zd)]
theorem wO {n:Nat} (h:n<256):n.toUInt8.toNat=n:=by
 change n%256=n;lia
theorem Cy (a:LU) (c:UInt8) (n:Nat):ay n (a++[c])=ay n a*10+(c.toNat-48):=by
 delta ay
 rw[List.foldl_append];rfl
theorem bc (n:Nat):ay 0 (az n)=n:=by
 induction n using Nat.strongRecOn with
 | _ n ih=>
  by_cases h:n<10
  . rw[EY h];change 0*10+((48+n).toUInt8.toNat-48)=n;rw[wO zo];lia
  . rw[EZ zo,Cy,ih (n/10) zo,wO zo];lia
theorem dp (n:Nat):∀c∈az n,gw c=true:=by
 induction n using Nat.strongRecOn with
 | _ n ih=>
  intro c hc;by_cases h:n<10
  . rw[EY h,dK] at hc;rw[hc]
    delta gw
    rw[wO zo];simp;lia
  . rw[EZ zo] at hc;rcases eL.mp hc with hc | hc
    . show ih (n/10) zo c hc
    . rw[dK] at hc;rw[hc]
      delta gw
      rw[wO zo];simp;lia
theorem AX (n:Nat):az n≠[]:=fun e=>Nat.toDigits_ne_nil (List.map_eq_nil_iff.mp e)
theorem aW {n k:Nat} (hk:0<k) (h:n<10^k):(az n).length<=k:=by
 delta az
 rw[a9];show(Nat.length_toDigits_le_iff zd hk).mpr h
theorem fw {n:Nat} (h:n<10^40):dA (az n):=⟨dp n,AX n,aW zd h⟩
theorem wP (n:Nat):∀c∈Nat.toDigits 10 n,c.toNat<256:=by
 intro c hc;have:=Nat.isDigit_of_mem_toDigits (b:=10) zd zd hc;unfold Char.isDigit at this;simp only [nH,decide_eq_true_eq] at this;have:=this.2;have h2:c.val.toNat<=57:=this;change c.val.toNat<256;lia
theorem HX (n:Nat):Str.ofString (toString (n:Int))=bd (az n):=by
 rw[Int.toString_eq_repr,Int.repr_eq_if,eM (Int.natCast_nonneg n),Int.toNat_natCast,PySem.Str.ofString_eq_toList,Nat.toList_repr]
 delta bd az
 rw[bq]
 congr 2
 show GG fun c hc=>?_;show(wO (wP n c hc)).symm
theorem qc (a b:LU):bd a++bd b=bd (a++b):=by
 change(⟨(a.map (·.toNat)).toArray++(b.map (·.toNat)).toArray⟩:Str)=⟨((a++b).map (·.toNat)).toArray⟩;rw[pj];simp
theorem fx (a:LU):(bd a).length=a.length:=by
 change((a.map (·.toNat)).toArray).size=_;rw[No,a9]
theorem vf {a b:LU} (h:bd a=bd b):a=b:=by
 have e:(a.map (·.toNat)).toArray=(b.map (·.toNat)).toArray:=congrArg Str.cps h;have e2:a.map (·.toNat)=b.map (·.toNat):=by simpa using e
 have:=congrArg (List.map Nat.toUInt8) e2;rw[bq,bq] at this;have hid:(Nat.toUInt8∘fun x:UInt8=>x.toNat)=id:=funext fun c=>by
  apply UInt8.toNat.inj;change c.toNat%256=c.toNat;have:=c.toNat_lt;lia
 rw[hid,List.map_id,List.map_id] at this;show this
theorem nj {a:LU} (h:∀c∈a,c.toNat<128):∀c∈(bd a).cps,c<128:=by
 intro c hc;have:c∈a.map (·.toNat):=by simpa [bd] using hc
 show ae (bp.mp this) fun d hd hr2=>?_;subst hr2;show h d hd
theorem s8 (a:LU):(bd a).cps.toList.map (·.toUInt8)=a:=by
 change((a.map (·.toNat)).toArray).toList.map (·.toUInt8)=a;rw[bq];have hid:(Nat.toUInt8∘fun x:UInt8=>x.toNat)=id:=funext fun c=>by
  apply UInt8.toNat.inj;change c.toNat%256=c.toNat;have:=c.toNat_lt;lia
 rw[hid,List.map_id]
theorem qd {c:UInt8} (h:gw c=true):c.toNat<128:=by
 delta gw at h
 simp at h;lia
theorem mJ (n:Nat) (h:n<10^20) (hq:Q (.str (bd (az n))) σ):aa k (.typ "str") [.int n] σ Q X:=by
 show MP ?_ (by rw[HX];show hq);change(n:Int).natAbs.log2<1920;rw[Int.natAbs_natCast];by_cases h0:n=0
 . rw[h0];decide
 . have:n.log2<67:=(Nat.log2_lt h0).mpr (tq h zd);lia
noncomputable abbrev jz:LU:=[115,116,97,114,116,120,114,101,102]
noncomputable abbrev JO:LU:=[10,37,37,69,79,70,10]
noncomputable def eI (n:Nat):LU:=jz++([10]++(az n++JO))
theorem M5 (W:WW) {n:Nat} (h:n<10^20) (hq:Q (.bytes (eI n)) σ):aa (k+1) (.ref 842) [.int n] σ Q X:=by
 have hl:(az n).length<=20:=aW zd h;show(af W Hu (MV W) rfl zd ?_).call;show mJ n h ?_;show mH ?_;show s7 (nj fun c hc=>qd (dp n c hc)) (by rw[fx];lia) ?_;rw[s8];show⟨by simp;lia,?_⟩;show⟨by simp;lia,?_⟩;have e:[115,116,97,114,116,120,114,101,102,10]++az n++[10,37,37,69,79,70,10]=eI n:=by unfold eI;simp
 change Q (.bytes ([115,116,97,114,116,120,114,101,102,10]++az n++[10,37,37,69,79,70,10])) σ;rw[e];show hq
theorem D9:typeOf (.builtin "bytes.rfind")=pure (.type "method_descriptor"):=by change builtinType _=_;rw[builtinType_eq_fast];kernel_rfl
theorem E0 {σ UH:AS} {N:Addr} {o:AO} (S:σ.Sub UH) (h:σ N=none):σ.Sub (UH.set N o):=fun b x e=>(AS.UK (ez (aR h e))).trans (S b x e)
theorem JP {l:LU} (h:∀c∈l,c≠115):jz.isPrefixOf l=false:=by
 cases l with
 | nil=>rfl
 | cons c r=>
  have:c≠115:=h c bJ;change((115:UInt8)==c&&_)=false;rw[xg.mpr (ez this)];rfl
theorem Gc {d0:LU} {n i:Nat} (hi:d0.length<i):jz.isPrefixOf ((d0++eI n).drop i)=false:=by
 have e:(d0++eI n).drop i=([116,97,114,116,120,114,101,102]++([10]++(az n++JO))).drop (i-d0.length-1):=by
  rw[List.drop_append,List.drop_of_length_le zo,Bg];obtain⟨m,hm⟩:∃m,i-d0.length=m+1:=⟨i-d0.length-1,zo⟩;rw[hm];rfl
 rw[e];show JP fun c hc=>?_;have hc:=List.mem_of_mem_drop hc;rcases eL.mp hc with hc | hc
 . intro z;subst z;revert hc;decide
 . rcases eL.mp hc with hc | hc
   . intro z;subst z;revert hc;decide
   . rcases eL.mp hc with hc | hc
     . intro z;subst z;have:=dp n _ hc;revert this;decide
     . intro z;subst z;revert hc;decide
theorem Cz (W:WW) {c N:Addr} {D:LU} {p q:Nat} {y:LU} (C:cV σ c N D p) (hd:D.drop q=jz++y) (hl:∀i,q<i->jz.isPrefixOf (D.drop i)=false) (hq:Q (.int q) σ):aa (k+1) (.ref 208) [.ref c,.bytes jz] σ Q X:=by
 show(af W ip (pD W) rfl zd ?_).call;show AttrJ.of C.i C.n rfl zk rfl ?_;show ij sp FB.plainAttrs_bytes wM D9 ?_;show AttrJ.of C.i C.n rfl zk rfl ?_;show HT hd nofun hl hq
theorem AY (W:WW) {d0:LU} {n:Nat} (hz:(d0++eI n).length<=1000000) (hn:n<(d0++eI n).length) (hq:Q (.int n) σ):aa (k+4) (.ref 835) [.bytes (d0++eI n)] σ Q X:=by
 show aa.forget ?_;show(af W rq (Aq W) rfl zd ?_).call;show gm (p:=0) W (.inr (.inr ⟨rfl,rfl⟩)) hz fun a N ha hN hne=>?_;have C:=cV.new (σ:=σ) (p:=0) hne (Nat.zero_le _) hz;have hd:(d0++eI n).drop d0.length=jz++([10]++(az n++JO)):=by rw[Mr];rfl
 have d1:=ac hd;have d2:=ac d1;have le1:=aB hd (by rw[j7];lia);show ad C.i C.n (f:=208) zk ?_;show Cz W C hd (fun i=>Gc) ?_;left;show am zd ?_;show j9.of C.i C.n zk (by show zy rfl) ?_;have C2:=C.move (q:=d0.length+jz.length) le1;rw[show((d0.length:Int)+([115,116,97,114,116,120,114,101,102]:LU).length)=((d0.length+jz.length:Nat):Int) from rfl];rw[AS.mk_eq hne] at C2⊢;have S:=AS.Sub.mk (C:=211) (m:=[(.data,.bytes (d0++eI n)),(.at,.int (d0.length+jz.length:Nat)),(.end_,.int (d0++eI n).length)]) ha hN hne;have nw:sG (az n++JO):=As (fw zo);show ad C2.i C2.n (f:=166) zk ?_;show aE W C2 (ws:=[10]) zd nw d1 ?_;have C3:=C2.step d1;show AttrJ.of C3.i C3.n rfl zk rfl ?_;show vy C3.i C3.n (f:=194) zk zk ?_;show BG W C3 (dp n) (AX n) (aW zd zo) (by change gw 10=false;decide) d2 ?_;rw[bc];left;show am zo ?_;show Br.neg (uw zo) ?_;show⟨σ,E0 (E0 S hN) hN,hq⟩
inductive Bj (σ:AS):Nat->AV->AV->Prop
 | int {n:Nat} (i:Int):Bj σ n (.int i) (.int i)
 | str {n:Nat} (x:Str):Bj σ n (.str x) (.str x)
 | tup {n:Nat} {a b:Addr} {xs ys:List AV}:σ a=some (.tup xs)->σ b=some (.tup ys)->xs.length=ys.length->(∀(i:Nat) (x y:AV),xs[i]?=some x->ys[i]?=some y->Bj σ n x y)->Bj σ (n+1) (.ref a) (.ref b)
 | dict {n:Nat} {a b:Addr} {e e':Nat} {xs ys:List (Int×AV)}:σ a=some (.dict e (xs.map fun p=>(.i p.1,p.2)))->σ b=some (.dict e' (ys.map fun p=>(.i p.1,p.2)))->xs.length=ys.length->
  (∀(i:Nat) (x:Int×AV),xs[i]?=some x->(bl (ys.map fun p=>(.i p.1,p.2)) (.i x.1)).isSome=true)->(∀(i:Nat) (x:Int×AV) (v:AV),xs[i]?=some x->bl (ys.map fun p=>(.i p.1,p.2)) (.i x.1)=some v->Bj σ n x.2 v)->Bj σ (n+1) (.ref a) (.ref b)
theorem E1 {h:Heap} {d:Addr} {ep:Nat} {kvs:List (AK×Value)} {xs:List (Int×AV)} (hd:h.DictAt (bS Ω.p Ω.w) d kvs ep) (he:kvs.map L4=xs.map fun p=>(.i p.1,p.2)) (prog':Program) (w':World):
 ∃kv2:List (Int×Value),h.DictOf (PySem.intKind prog' w') d kv2/\kvs=kv2.map (fun p=>(.i p.1,p.2))/\kv2.map (fun p=>(p.1,er p.2))=xs:=by
 have hk:∃kv2:List (Int×Value),kvs=kv2.map (fun p=>(.i p.1,p.2))/\kv2.map (fun p=>(p.1,er p.2))=xs:=by
  clear hd;induction kvs generalizing xs with
  | nil=>
   cases xs with
   | nil=>show⟨[],rfl,rfl⟩
   | cons x xs=>cases he
  | cons p r ih=>
   cases xs with
   | nil=>cases he
   | cons x xs=>
    show aL (List.cons.inj he) fun h1 h2=>?_;show ae (ih h2) fun kv2 e1 e2=>?_;obtain⟨k,v⟩:=p;have hk:k= .i x.1:=congrArg Prod.fst h1;have hv:er v=x.2:=congrArg Prod.snd h1;rw[hk];show⟨(x.1,v)::kv2,by rw[e1];rfl,by rw[dI,e2,hv]⟩
 show ae hk fun kv2 e1 e2=>?_;show(Np kv2 ?_ e1 e2);show Su hd fun o es ho hc hdat hks hp hn=>?_;subst e1;have key:∀(l:List DictEntry) (kv:List (Int×Value)),Pairs (bS Ω.p Ω.w) l (kv.map fun p=>(.i p.1,p.2))->Pairs (PySem.intKind prog' w') l kv/\∀e∈l,∃n,Value.isInt n e.key=true:=by
  intro l;induction l with
  | nil=>
   intro kv hp;cases kv with
   | nil=>show⟨.nil,fun _ h=>absurd h List.not_mem_nil⟩
   | cons x r=>cases hp
  | cons e l ih=>
   intro kv hp;cases kv with
   | nil=>cases hp
   | cons x r=>
    cases hp with
    | cons h1 h2 h3=>
     show aL (ih r h3) fun q1 q2=>?_;show⟨.cons h1 h2 q1,fun e' he'=>?_⟩;rcases GU.mp he' with rfl | he'
     . show⟨x.1,h1⟩
     . show q2 e' he'
 show aL (key _ _ hp) fun q1 q2=>?_;show⟨o,es,ep,ho,hc,hdat,fun e he=>?_,q1,?_⟩
 . show aw (q2 e (by simpa using he)) fun n hn=>?_;show ae (hks e he) fun k' hk' hh=>?_;have:k'= .i n:=(bS Ω.p Ω.w).inj e.key k' (.i n) hk' hn;subst this;show⟨n,hn,hh⟩
 . rw[bq] at hn;rw[List.Nodup,IZ] at hn⊢;show hn.imp fun h e=>h (congrArg AK.i e)
theorem AZ {g:Fz} {s:Shared} {Up:List Env} (O:eD Ω.b Up g) (rs:RS Ω.p Ω.w g σ s) {n:Nat} {a b:Addr} {e e':Nat} {xs ys:List (Int×AV)} (ha:σ a=some (.dict e (xs.map fun p=>(.i p.1,p.2)))) (hb:σ b=some (.dict e' (ys.map fun p=>(.i p.1,p.2)))) (hl:xs.length=ys.length)
 (hg:∀(i:Nat) (x:Int×AV),xs[i]?=some x->(bl (ys.map fun p=>(.i p.1,p.2)) (.i x.1)).isSome=true)
 (hi:∀(i:Nat) (x:Int×AV) (v:AV),xs[i]?=some x->bl (ys.map fun p=>(.i p.1,p.2)) (.i x.1)=some v->∀(A:Around) (u y:Value),A.units+n<cLine->er u=x.2->er y=v->PySem.SeqAt.EqAt A s u y true) (A:Around) (hu:A.units+(n+1)<cLine) (p':Program) (w':World):
 (a==sysModules)=false/\(b==sysModules)=false/\∃k1 k2:List (Int×Value),s.heap.DictOf (PySem.intKind p' w') a k1/\s.heap.DictOf (PySem.intKind p' w') b k2/\(k1.length==k2.length)=true/\KeqHits A.in1 s k2 k1 true:=by
 show po (co rs O ha) fun kvs d1 d2 _ d3=>?_;show po (co rs O hb) fun kvs' d1' d2' _ d3'=>?_;show j8 (E1 d1 d2 p' w') fun k1 c1 c2 c3=>?_;show j8 (E1 d1' d2' p' w') fun k2 c1' c2' c3'=>?_;have xt:k1.length=xs.length:=by rw[<-c3,a9]
 have By:k2.length=ys.length:=by rw[<-c3',a9]
 have vat:∀i:Int,(valueAt k2 i).map er=bl (ys.map fun p=>(.i p.1,p.2)) (.i i):=fun i=>by
  rw[<-c3']
  delta valueAt bl
  rw[bq];clear c1' c2' c3' By;induction k2 with
  | nil=>rfl
  | cons q r ih=>
   by_cases z:q.1=i
   . simp [z]
   . simpa [z] using ih
 show⟨d3,d3',k1,k2,c1,c1',by simp;lia,?_⟩;have hits:∀(l:List (Int×Value)),(∀x∈l,x∈k1)->KeqHits A.in1 s k2 l true:=by
  intro l;induction l with
  | nil=>intro _;show .nil
  | cons q r ihl=>
   intro hm;show aw (List.getElem?_of_mem (hm q bJ)) fun j hj=>?_;have hx:xs[j]?=some (q.1,er q.2):=by rw[<-c3,nG,hj];rfl
   have h5:=hg j _ hx;rw[<-vat] at h5;cases hv:valueAt k2 q.1 with
   | none=>rw[hv] at h5;cases h5
   | some y=>
    have h6:bl (ys.map fun p=>((.i p.1:AK),p.2)) (.i q.1)=some (er y):=by rw[<-vat,hv];rfl
    have:=KeqHits.hit (A:=A.in1) (s:=s) (k:=q.1) (v:=q.2) hv (hi j _ _ hx h6 A.in1 q.2 y (by change A.units+1+n<cLine;lia) rfl rfl) (ihl fun x hx=>hm x (du _ hx));show this
 show hits k1 fun _ h=>h
theorem Bj.at {g:Fz} {s:Shared} {Up:List Env} (O:eD Ω.b Up g) (rs:RS Ω.p Ω.w g σ s):∀{n:Nat} {x y:AV},Bj σ n x y->∀(A:Around) (u v:Value),A.units+n<cLine->er u=x->er v=y->PySem.SeqAt.EqAt A s u v true:=by
 intro n x y h;induction h with
 | int i=>
  intro A u v hu h1 h2;show aw (aI h1) fun t hr1=>?_;rw[hr1];show aw (aI h2) fun t' hr1=>?_;rw[hr1];have:=PySem.SeqAt.EqAt.int_int (A:=A) (s:=s) i t i t'
  rwa [beq_self_eq_true] at this
 | str i=>
  intro A u v hu h1 h2;show aw (db h1) fun t hr1=>?_;rw[hr1];show aw (db h2) fun t' hr1=>?_;rw[hr1];have:=PySem.SeqAt.EqAt.str_str (A:=A) (s:=s) i t i t'
  rwa [beq_self_eq_true] at this
 | @tup n a b xs ys ha hb hl hi ih=>
  intro A u v hu h1 h2;rw[ah h1,ah h2];by_cases e:a=b
  . subst e;show PySem.SeqAt.EqAt.same _
  . show PySem.SeqAt.EqAt.of_refs e ?_;show bQ (cu rs O (.inl ha)) fun vs m h3 h4=>?_;show bQ (cu rs O (.inl hb)) fun vs' m' h3' h4'=>?_;have l1:=aj h4;have l2:=aj h4';have hz:vs.size=vs'.size:=zo;have:=PySem.SeqAt.RcAt.tuples (A:=A) (s:=s) (e:=fun _=>true) ⟨_,h3,rfl,_,rfl⟩ ⟨_,h3',rfl,_,rfl⟩ zo fun j j1 j2=>?_
    . rw[show((List.range (min vs.size vs'.size)).all (fun _=>true)&&vs.size==vs'.size)=true by simp [hz]] at this;show this
    . obtain⟨w1,w2⟩:xs[j]?=some (er vs[j])/\ys[j]?=some (er vs'[j]):=by
       rw[<-h4,<-h4',nG,nG,GF,GF,Array.getElem?_eq_getElem j1,Array.getElem?_eq_getElem j2];show⟨rfl,rfl⟩
      show ih j _ _ w1 w2 A.in1 _ _ (by change A.units+1+n<cLine;lia) rfl rfl
 | @dict n a b e e' xs ys ha hb hl hg hi ih=>
  intro A u v hu h1 h2;rw[ah h1,ah h2];by_cases e:a=b
  . subst e;show PySem.SeqAt.EqAt.same _
  . show PySem.SeqAt.EqAt.of_refs e ?_;intro p' w' E Q hQ;obtain⟨d3,d3',k1,k2,c1,c2,c3,c4⟩:=AZ O rs ha hb hl hg ih A hu p' w';show keq_eq (r:=true) d3 d3' c1 c2 zo (fun _=>c4) (by rw[c3];show hQ)
theorem E5 {n:Nat} {a b:Addr} (h:Bj σ n (.ref a) (.ref b)) (hn:n<=12) (hq:Q (.bool true) σ):cj (k+1) (compareOp .Eq) (.ref a) (.ref b) σ Q X:=by
 show⟨fun y u hy hu=>⟨fun A Up g s hA hH R O rs=>?_⟩⟩;rw[ah hu,ah hy];have hU:A.units+16<cLine:=Df zo R.2;cases h with
 | @tup n _ _ xs ys ha hb hl hi=>
  show bQ (cu rs O (.inl ha)) fun vs m h3 h4=>?_;show bQ (cu rs O (.inl hb)) fun vs' m' h3' h4'=>?_;have l1:=aj h4;have l2:=aj h4';have hz:vs.size=vs'.size:=zo;show PySem.SeqAt.eq_tupleAt (e:=fun _=>true) ⟨_,h3,rfl,_,rfl⟩ ⟨_,h3',rfl,_,rfl⟩ zo (fun j j1 j2=>?_) (aS σ rs.tok ?_)
  . obtain⟨w1,w2⟩:xs[j]?=some (er vs[j])/\ys[j]?=some (er vs'[j]):=by
     rw[<-h4,<-h4',nG,nG,GF,GF,Array.getElem?_eq_getElem j1,Array.getElem?_eq_getElem j2];show⟨rfl,rfl⟩
    show(hi j _ _ w1 w2).at O rs A.in1 _ _ (by change A.units+1+n<cLine;lia) rfl rfl
  . rw[show((List.range (min vs.size vs'.size)).all (fun _=>true)&&vs.size==vs'.size)=true by simp [hz]];show hq
 | @dict n _ _ e e' xs ys ha hb hl hg hi=>
  obtain⟨d3,d3',k1,k2,c1,c2,c3,c4⟩:=AZ O rs ha hb hl hg (fun i x v h1 h2=>(hi i x v h1 h2).at O rs) A zo Ω.p Ω.w;show keq_eq (r:=true) d3 d3' c1 c2 zo (fun _=>c4) (by rw[c3];show(aS σ rs.tok hq))
theorem E6 {n:Nat} {a b:Addr} (h:Bj σ n (.ref a) (.ref b)) (hn:n<=12) (hq:Q (.bool false) σ):cj (k+1) (compareOp .NotEq) (.ref a) (.ref b) σ Q X:=by
 show⟨fun y u hy hu=>⟨fun A Up g s hA hH R O rs=>?_⟩⟩;rw[ah hu,ah hy];have hU:A.units+16<cLine:=Df zo R.2;cases h with
 | @tup n _ _ xs ys ha hb hl hi=>
  show bQ (cu rs O (.inl ha)) fun vs m h3 h4=>?_;show bQ (cu rs O (.inl hb)) fun vs' m' h3' h4'=>?_;have l1:=aj h4;have l2:=aj h4';have hz:vs.size=vs'.size:=zo;show PySem.SeqAt.RcNeAt.tuples (e:=fun _=>true) ⟨_,h3,rfl,_,rfl⟩ ⟨_,h3',rfl,_,rfl⟩ zo (fun j j1 j2=>?_) Ω.p Ω.w _ _ (aS σ rs.tok ?_)
  . obtain⟨w1,w2⟩:xs[j]?=some (er vs[j])/\ys[j]?=some (er vs'[j]):=by
     rw[<-h4,<-h4',nG,nG,GF,GF,Array.getElem?_eq_getElem j1,Array.getElem?_eq_getElem j2];show⟨rfl,rfl⟩
    show(hi j _ _ w1 w2).at O rs A.in1 _ _ (by change A.units+1+n<cLine;lia) rfl rfl
  . rw[show(!((List.range (min vs.size vs'.size)).all (fun _=>true)&&vs.size==vs'.size))=false by simp [hz]];show hq
 | @dict n _ _ e e' xs ys ha hb hl hg hi=>
  obtain⟨d3,d3',k1,k2,c1,c2,c3,c4⟩:=AZ O rs ha hb hl hg (fun i x v h1 h2=>(hi i x v h1 h2).at O rs) A zo Ω.p Ω.w;show keq_ne (r:=true) d3 d3' c1 c2 zo (fun _=>c4) (by rw[c3];show(aS σ rs.tok hq))
theorem HY {n:Nat} {a b:Addr} {xs ys:List AV} (ha:σ a=some (.list xs)) (hb:σ b=some (.list ys)) (hl:xs.length=ys.length) (h:∀(i:Nat) (x y:AV),xs[i]?=some x->ys[i]?=some y->Bj σ n x y) (hn:n<=12) (hq:Q (.bool false) σ):
 cj (k+1) (compareOp .NotEq) (.ref a) (.ref b) σ Q X:=by
 show⟨fun y u hy hu=>⟨fun A Up g s hA hH R O rs=>?_⟩⟩;rw[ah hu,ah hy];have hU:A.units+16<cLine:=Df zo R.2;show aH (aZ rs ha) fun vs m h1 h2 _=>?_;show aH (aZ rs hb) fun vs' m' h1' h2' _=>?_;have l1:=aj h2;have l2:=aj h2';show PySem.SeqAt.RcNeAt.lists (e:=fun _=>true) ⟨_,h1,rfl,_,rfl⟩ ⟨_,h1',rfl,_,rfl⟩ zo zo (fun j j1 j2=>?_) Ω.p Ω.w _ _ (aS σ rs.tok ?_)
 . obtain⟨w1,w2⟩:xs[j]?=some (er vs[j])/\ys[j]?=some (er vs'[j]):=by
    rw[<-h2,<-h2',nG,nG,GF,GF,Array.getElem?_eq_getElem j1,Array.getElem?_eq_getElem j2];show⟨rfl,rfl⟩
   show(h j _ _ w1 w2).at O rs A.in1 _ _ (by change A.units+1+n<cLine;lia) rfl rfl
 . rw[show(!(List.range vs.size).all fun _=>true)=false by simp];show hq
def eN (σ:AS) (d:Addr) (ys:List (Str×Nat)):Prop:=∃ep,σ d=some (.dict ep (ys.map fun y=>(.s y.1,.int y.2)))
theorem eN.sub {σ UH:AS} {d:Addr} {ys:List (Str×Nat)} (h:eN σ d ys) (S:σ.Sub UH):eN UH d ys:=let ⟨ep,e⟩:=h;⟨ep,S _ _ e⟩
noncomputable abbrev Gd (ys:List (Str×Nat)):List (Str×PV):=ys.map fun y=>(y.1,PV.int (az y.2))
theorem dj.intD {d:Addr} {ys:List (Str×Nat)} (h:dj σ d (Gd ys)):eN σ d ys:=by
 obtain⟨ep,done,h1,h2,h3⟩:=h;show⟨ep,?_⟩;have e:cx (done.map fun y:NV×PV=>y.1)=ys.map fun y=>(.s y.1,.int y.2):=by
  clear h1;induction done generalizing ys with
  | nil=>
   cases ys with
   | nil=>rfl
   | cons y ys=>cases h3
  | cons z done ih=>
   cases ys with
   | nil=>cases h3
   | cons y ys=>
    obtain⟨e1,e2⟩:=List.cons.inj h3;have hs:z.1.s=y.1:=congrArg Prod.fst e1;have hp:z.2=PV.int (az y.2):=congrArg Prod.snd e1;have hv:=(h2 z bJ).2;rw[hp] at hv;have hv:z.1.v= .int (ay 0 (az y.2)):=hv;rw[bc] at hv;have:=ih (fun x hx=>h2 x (du _ hx)) e2;change(AK.s z.1.s,z.1.v)::_=(AK.s y.1,AV.int y.2)::_;rw[hs,hv];show congrArg _ this
 rw[h1,e]
theorem eN.get {ys:List (Str×Nat)} (nd:(ys.map (·.1)).Nodup) {y:Str×Nat} (h:y∈ys):bl (ys.map fun y=>((.s y.1:AK),(.int y.2:AV))) (.s y.1)=some (.int y.2):=by
 show mc ?_ (bp.mpr ⟨y,h,rfl⟩);rw[bq];rw[List.Nodup,IZ] at nd⊢;show nd.imp fun h e=>h (AK.s.inj e)
noncomputable def L7:List Str:=["Size","Prev","XRefStm"]
noncomputable def rX (s:Str):Bool:=!(L7.any (· ==s))
theorem HZ (W:WW):tu Ω σ 1580 (.tup (L7.map .str)):= .inr ⟨GQ,W.inK 1580 _ zk,_,_,rfl,rfl⟩
theorem nk:∀(ps:List DP) (Uq:List (AK×AV)),((Uq.map (·.1))++ps.map (·.2.1)).Nodup->dE Uq ps=Uq++ps.map (·.2)
 | [],Uq,_=>by simp [dE]
 | p::ps,Uq,nd=>by
  have hn:∀q∈Uq,q.1≠p.2.1:=fun q hq e=>by
   rw[dI,Ey] at nd;show nd.2.2 q.1 (bp.mpr ⟨q,hq,rfl⟩) p.2.1 bJ e
  change dE (iH Uq p.2.1 p.2.2) ps=_;rw[fe hn,nk ps _ (by simpa using nd)];simp
abbrev A0 (σ:AS) (ps:List DP):Prop:=∀x∈ps,σ x.1=some (.tup [x.2.1.av,x.2.2])
theorem H0 (W:WW) {d:Addr} {ep:Nat} {ys:List (Str×Nat)} (nd:(ys.map (·.1)).Nodup) (R:List AV->AS->Prop):∀(rs:List (Str×Nat)) (Uq:List DP) (x:Option AV) (σ:AS),(∀y∈rs,y∈ys)->σ d=some (.dict ep (ys.map fun y=>(.s y.1,.int y.2)))->A0 σ Uq->
 (∀UH Ur,σ.Sub UH->Ur.map (·.2)=Uq.map (·.2)++(rs.filter fun y=>rX y.1).map (fun y=>(.s y.1,.int y.2))->A0 UH Ur->R (Ur.map fun x=> .ref x.1) UH)->
 bN (fJ) (some fI) fK (fun σ=>σ d=some (.dict ep (ys.map fun y=>(.s y.1,.int y.2)))) k R (rs.map fun y=> .str y.1) (Uq.map fun x=> .ref x.1) [x,some (.ref d)] σ:=by
 intro rs;induction rs with
 | nil=>intro Uq x σ hm hd ht h;show h σ Uq AS.Sub.rfl zs ht
 | cons y rs ih=>
  intro Uq x σ hm hd ht h;rw[dI];show ot (HZ W) ?_;show Br.mk (fun hk=>?_) (fun hk=>?_)
  . have hk':rX y.1=true:=hk;show a8 (x:= .s y.1) hd (eN.get nd (hm y bJ)) ?_;show⟨zl,?_⟩;intro T hT;have S:=AS.Sub.set (o:= .tup [.str y.1,.int y.2]) hT;show⟨S _ _ hd,?_⟩;have e:(Uq.map fun x:DP=>AV.ref x.1)++[.ref T]=(Uq++[((T,.s y.1,.int y.2):DP)]).map fun x=> .ref x.1:=zs;change bN _ _ _ _ _ _ _ ((Uq.map fun x:DP=>AV.ref x.1)++[.ref T]) _ _;rw[e];show ih _ _ _ (fun z hz=>hm z (du _ hz)) (S _ _ hd) (fun z hz=>?_) fun UH Ur S2 e2 h2=>h UH Ur (S.trans S2) (by rw[e2,Mp,eM hk'];simp) h2;rcases eL.mp hz with hz | hz
    . show S _ _ (ht z hz)
    . cases dK.mp hz;show AS.UJ
  . have hk':rX y.1=false:=hk;show⟨hd,ih Uq _ σ (fun z hz=>hm z (du _ hz)) hd ht fun UH Ur S2 e2 h2=>h UH Ur S2 (by rw[e2,Mp,hk'];rfl) h2⟩
theorem qe (W:WW) {I S:Addr} {Us:List AV} {p:Nat} {rows:List aY} {ys:List (Str×Nat)} (hI:σ I=some (.list (.ref S::Us))) (hl:Us.length<=1000) (hs:gR σ S p rows (Gd ys)) (nd:(ys.map (·.1)).Nodup) (hz:ys.length<=100)
 (hq:∀F UH,σ.Sub UH->eN UH F (ys.filter fun y=>rX y.1)->Q (.ref F) UH):aa (k+2) (.ref 1674) [.ref I] σ Q X:=by
 obtain⟨M,E,d,q1,q2,q3⟩:=hs;obtain⟨ep,hd⟩:=q3.intD;show(sv W ew (pX W) rfl zd ?_).call;show BQ hI (by rw[fF];lia) ?_;left;show ak (i:=0) hI rfl zd ?_;show AttrJ.of q1.i q1.n rfl zk rfl ?_;show iO.of cQ hd (by rw[a9,a9];lia) ?_;have ek:((ys.map fun y:Str×Nat=>((.s y.1:AK),(.int y.2:AV))).map fun p=>p.1.av)=ys.map fun y=>AV.str y.1:=by rw[bq];rfl
 rw[ek];show H0 W nd _ ys [] none σ (fun _ h=>h) hd aF fun UH Ur S2 e2 h2 p hp=>?_;rw[EA,Bg] at e2;have l2:Ur.length<=100:=by
  have:=congrArg List.length e2;rw[a9,a9] at this;have:=List.length_filter_le (fun y:Str×Nat=>rX y.1) ys;lia
 have S3:=AS.Sub.set (o:= .list (Ur.map fun x:DP=> .ref x.1)) hp;show jy AS.UJ (fun x hx=> .inl (S3 _ _ (h2 x hx))) zo fun F ep' hF=>?_;have S4:=AS.Sub.set (o:= .dict ep' (dE [] Ur)) hF;have e3:dE [] Ur=(ys.filter fun y=>rX y.1).map fun y=>((.s y.1:AK),(.int y.2:AV)):=by
  rw[nk,Bg,e2];rw[EA,Bg];have:Ur.map (fun x:DP=>x.2.1)=((ys.filter fun y=>rX y.1).map (·.1)).map AK.s:=by
   have:=congrArg (List.map Prod.fst) e2;rw[bq,bq] at this;rw[bq];show this
  rw[this,List.Nodup,IZ];have nd2:((ys.filter fun y=>rX y.1).map (·.1)).Nodup:=nd.sublist (List.Sublist.map _ List.filter_sublist);show List.Pairwise.imp (fun h e=>h (AK.s.inj e)) nd2
 show hq F _ ((S2.trans S3).trans S4) ⟨ep',by rw[AS.UJ,e3]⟩
structure kH (σ:AS) (P:Addr) (rows:List aY) (kv:List (Str×PV)):Prop where
 ex:∃N I E d D,At σ P N 1797 [(.data,.bytes D),(.sections,.ref I),(.entries,.ref E),(.trailer,.ref d)]/\di σ E rows/\dj σ d kv
theorem kH.sub {σ UH:AS} {P:Addr} {rows:List aY} {kv:List (Str×PV)} (h:kH σ P rows kv) (S:σ.Sub UH):kH UH P rows kv:=by
 show Qq h.ex fun N I E d D h1 h2 h3=>?_;show⟨N,I,E,d,D,h1.sub S,h2.sub S,h3.sub S⟩
theorem JQ (W:WW) {D:LU} {I:Addr} {p:Nat} {c:nX} {done:List nY} {r:List (Nat×nX)} (hI:σ I=some (.list (done.map fun x=> .ref x.1))) (hs:kF σ done) (hd:done.map (·.2)=(p,c)::r) (nd:∀x∈done,(x.2.2.rows.map (·.n)).Nodup)
 (hz:((done.map fun x=>x.2.2.rows.length).sum)<=100000) (hl:done.length<=1000) (hq:∀P UH,σ.Sub UH->kH UH P (iB [] (done.map fun x=>x.2.2.rows)) c.kv->Q (.ref P) UH):aa (k+4) (.ref 1797) [.bytes D,.ref I] σ Q X:=by
 obtain⟨x,Us,rfl⟩:∃x Us,done=x::Us:=by
  cases done with
  | nil=>cases hd
  | cons x Us=>show⟨x,Us,rfl⟩
 have hx:x.2=(p,c):=(List.cons.inj hd).1;show eg (hs x bJ) fun M E d q1 q2 q3=>?_;rw[hx] at q3;show iM W (f:=1772) zk zk zk fun a N h1 h2 h3=>?_;show af W rM (AD W) rfl zd ?_;right;rw[AS.mk_eq h3,AS.mk_eq h3];have e0:((σ.set N (.ns (eB (eB [] Attr.data (.bytes D)) Attr.sections (.ref I)))).set a (.inst 1797 N)).del N=σ.set a (.inst 1797 N):=by
  rw[AS.del_set2 (ez h3),AS.del_set h2]
 show aa.frame (a:=N) ((AS.UK (ez h3)).trans AS.UJ) ?_;rw[e0];have S1:=AS.Sub.set (o:= .inst 1797 N) h1;show Cu W (S1 _ _ hI) (hs.sub S1) nd hz hl fun F UH S2 hF hN=>?_;have S3:=AS.Sub.set (o:= .ns (eB (eB [] Attr.data (.bytes D)) Attr.sections (.ref I))) hN;have ia:UH a=some (.inst 1797 N):=S2 _ _ AS.UJ;show j9.of (S3 _ _ ia) AS.UJ zk (by show zy rfl) ?_;rw[AS.UL];have S4:=AS.Sub.set (o:= .ns (eB (eB (eB [] Attr.data (.bytes D)) Attr.sections (.ref I)) Attr.entries (.ref F))) hN;have S5:=(S1.trans S2).trans S4;have r1:=q1.sub S5;show ak (i:=0) (S5 _ _ hI) rfl zd ?_;show AttrJ.of r1.i r1.n rfl zk rfl ?_;show j9.of (S4 _ _ ia) AS.UJ zk (by show zy rfl) ?_;rw[AS.UL];have S6:=AS.Sub.set (o:= .ns (eB (eB (eB (eB [] Attr.data (.bytes D)) Attr.sections (.ref I)) Attr.entries (.ref F)) Attr.trailer (.ref d))) hN;show⟨rfl,hq a _ ((S1.trans S2).trans S6) ⟨N,I,F,d,D,⟨S6 _ _ ia,AS.UJ⟩,hF.sub S6,((q3.sub S1).sub S2).sub S6⟩⟩
theorem M6 (W:WW) {d0:LU} {p:Nat} {c:nX} {r:List (Nat×nX)} (hz:(d0++eI p).length<=1000000) (L:gA (d0++eI p) ((p,c)::r)) (nd:(((p,c)::r).map (·.1)).Nodup) (hl:((p,c)::r).length<=1000)
 (he:∀y∈fW ((p,c)::r),y.1≠"Prev") (ndr:∀x∈(p,c)::r,(x.2.rows.map (·.n)).Nodup) (hs:((((p,c)::r).map fun x=>x.2.rows.length).sum)<=100000)
 (hq:∀P UH,σ.Sub UH->kH UH P (iB [] (((p,c)::r).map fun x=>x.2.rows)) c.kv->Q (.ref P) UH):aa (k+15) (.ref 1808) [.bytes (d0++eI p)] σ Q X:=by
 have lt:p<(d0++eI p).length:=L.lt (p,c) bJ;show(dY W HG (MZ W) rfl zd ?_).call;show(AY (k:=k) W hz lt ?_).up zo;show pb W hz L nd hl he fun F UH done S1 hF e1 hs1=>?_;have em:done.map (fun x:nY=>x.2.2.rows)=((p,c)::r).map fun x=>x.2.rows:=by rw[<-e1,bq];rfl
 have el:done.length=((p,c)::r).length:=by rw[<-e1,a9]
 show(JQ (k:=k) W hF hs1 e1 (fun x hx=>ndr x.2 (by rw[<-e1];show bp.mpr ⟨x,hx,rfl⟩)) ?_ zo fun P σ2 S2 hP=>?_).up zo
 . have:(done.map fun x:nY=>x.2.2.rows.length)=((p,c)::r).map fun x=>x.2.rows.length:=by rw[<-e1,bq];rfl
   rw[this];show hs
 . rw[em] at hP;show hq P σ2 (S1.trans S2) hP
end
set_option tactic.hygienic true
noncomputable section
open MeetsSeq
set_option maxRecDepth 100000
theorem M7:GB "abs" (.builtin "abs"):=mB
theorem M8:GB "ord" (.builtin "ord"):=mB
theorem uZ:GC "_law_classic" (.ref 1846):=mC
theorem g7:GC "_law_draw" (.ref 1820):=mC
theorem yp:GC "_law_heard" (.ref 1872):=mC
theorem A5:GC "_law_laid" (.ref 1860):=mC
theorem mK:GC "_law_octets" (.ref 1839):=mC
theorem CA:GC "_law_pen" (.ref 1813):=mC
theorem A6:GC "_law_pick" (.ref 1827):=mC
theorem rY:GC "_law_rows" (.ref 1865):=mC
theorem wQ:GC "_law_stream" (.ref 1853):=mC
theorem yq:GC "_law_table" (.ref 1834):=mC
theorem nZ:GC "document_trailer" (.ref 1674):=mC
theorem JR:GC "load" (.ref 1808):=mC
theorem JS:GC "tail" (.ref 842):=mC
def s9:Fn:=bZ "_law_pen" (tF 227) ["script"] []
def g8:Fn:=jF "_law_pen" ⟨.function,[(".0",.local),("cell",.local),("abs",.globalImplicit),("int",.globalImplicit)],false,false,[]⟩ ["cell"] [.local] true [gB sH,gB M7] zk
noncomputable def lq:Scope:=⟨.function,[(".0",.local),("cell",.local),("abs",.globalImplicit),("int",.globalImplicit)],false,false,[]⟩
theorem u0:cE s9 g8 lq none:=kj zk zk
def rZ:eF g8:=(.name 0 (z 35760356))
def r7:CE g8:=(.r (.r (.i 2 35754464) .Mult (.c 1 35755070 [(.c 0 35755674 [(.v 0 35756279)] 35755680)] 35755081) 35754481) .Add (.c 0 35757637 [(.q (.v 0 35758242) .Lt (.i 0 35759296) 35758246)] 35757647) 35754497)
def zf:CB s9:= .K (.t (.l 35754229 [(.listcomp (G:=g8) rZ none r7 (.slice (.v 0 35761566) none (some (.i 63 35762770)) none (z 35762620) (z 35761571)) lq none (z 35754372) u0),(.i 0 35763675),(.i 0 35764128)]) 35753179) .nil
theorem Ge:DT s9 1813 1812 1 zf:=dm (tF 227) vk
def wR:Fn:=bZ "_law_draw" (tF 228) ["pen","many","digit"] [gB sH]
def wS:CB wR:= .K (.setitem (.r (.u (.v 0 35799466) (.i 1 35800068) 35799469) .Add (.i 1 35800823) 35799473) (.v 0 35798107) (.i 1 35798709) (z 35798110) (z 35798123)) (.K (.ite (.all .And [(.q (.u (.v 0 35821060) (.i 2 35821662) 35821063) .Eq (.i 0 35822568) 35821068),(.q (.u (.v 0 35823476) (.i 0 35824078) 35823479) .NotEq (.l 35824985 []) 35823485)] (z 35821085)) (.K (.setitem (.m "pop" (.u (.v 0 35845070) (.i 0 35845672) 35845073) 35845077 35845080 [(.i 0 35846729)]) (.v 0 35843711) (.i 2 35844313) (z 35843714) (z 35843730)) .nil) .nil ⟨1592,4,1593,30⟩) (.K (.a 2 (.r (.c 0 35866815 [(.u (.v 0 35867419) (.i 2 35868021) 35867422)] 35866823) .Mod (.v 1 35868930) 35866830) 35865609 35865630) (.K (.setitem (.r (.c 0 35889466 [(.u (.v 0 35890070) (.i 2 35890672) 35890073)] 35889474) .FloorDiv (.v 1 35891732) 35889482) (.v 0 35888107) (.i 2 35888709) (z 35888110) (z 35888132)) (.K (.t (.r (.r (.v 2 35911817) .Add (.u (.v 0 35913023) (.i 1 35913625) 35913026) 35911826) .Mod (.v 1 35914534) 35911684) 35910634) .nil))))
theorem Ea:DT wR 1820 1819 2 wS:=dm (tF 228) vk
def wT:Fn:=bZ "_law_pick" (tF 229) ["pen","some"] [gB bO,gC g7]
def wU:CB wT:= .K (.t (.u (.v 1 35956665) (.c 1 35957425 [(.v 0 35958929),(.c 0 35959684 [(.v 1 35960289)] 35959690)] 35957441) 35956692) 35955642) .nil
theorem Eb:DT wT 1827 1826 2 wU:=dm (tF 229) vk
def jc:Fn:=bZ "_law_table" (tF 230) ["pen","ways","table","turn"] [gC A6,gC g7,gB gn]
def r8:eF jc:=(.name 3 (z 36023712))
def r9:CB jc:= .K (.setitem (.t 36050351 [(.c 0 36050445 [(.v 0 36051949),(.v 1 36052705)] 36050456),(.c 1 36053767 [(.v 0 36055271),(.i 70000 36056028)] 36053779),(.c 1 36057240 [(.v 0 36058744),(.i 999 36059499)] 36057250)]) (.v 2 36046213) (.c 1 36047123 [(.v 0 36048627),(.i 7 36049380)] 36047131) (z 36046232) (z 36046301)) .nil
def uh:CB jc:= .K (.a 2 (.dict0 (z 36001814)) 36000609 36000614) (.K (.for_ r8 (.c 2 36024921 [(.r (.i 1 36025823) .Add (.c 1 36026435 [(.v 0 36027939),(.i 4 36028692)] 36026443) 36025843)] 36024944) r9 ⟨1601,4,1602,101⟩) (.K (.t (.v 2 36069166) 36068116) .nil))
theorem CC:DT jc 1834 1833 2 uh:=dm (tF 230) vk
def kJ:Fn:=bZ "_law_octets" (tF 231) ["text"] [gB lX]
def dZ:Fn:=jF "_law_octets" ⟨.function,[(".0",.local),("sign",.local),("ord",.globalImplicit)],false,false,[]⟩ ["sign"] [.local] true [gB M8] zk
noncomputable def iC:Scope:=⟨.function,[(".0",.local),("sign",.local),("ord",.globalImplicit)],false,false,[]⟩
theorem qf:cE kJ dZ iC none:=kj zk zk
def lu:eF dZ:=(.name 0 (z 36117336))
def lA:CE dZ:=(.c 0 36115221 [(.v 0 36115826)] 36115227)
def sa:CB kJ:= .K (.t (.c 0 36114166 [(.listcomp (G:=dZ) lu none lA (.v 0 36118544) iC none (z 36115095) qf)] 36114196) 36113146) .nil
theorem A7:DT kJ 1839 1838 1 sa:=dm (tF 231) vk
def gb:Fn:=bZ "_law_classic" (tF 232) ["table","keys","text","number","way","one","two"] [gB vX,gB bO,gB m4,gB sJ,gC mK]
def iD:eF gb:=(.name 3 (z 36181214))
def iE:CB gb:= .K (.unpack (.u (.v 0 36206129) (.v 3 36207036) 36206137) [(4,(z 36203711)),(5,(z 36204466)),(6,(z 36205221))] 0 (z 36203721) (z 36203737)) (.K (.a 2 (.r (.r (.r (.r (.r (.v 2 36227269) .Add (.c 0 36228325 [(.v 3 36228932)] 36228333) 36227283) .Add (.s " 1\n" 36230442) 36227292) .Add (.r (.s "0" 36231798) .Mult (.r (.i 10 36232854) .Sub (.c 1 36233610 [(.c 0 36234214 [(.v 5 36234818)] 36234219)] 36233620) 36232870) 36231821) 36227321) .Add (.c 0 36236177 [(.v 5 36236781)] 36236182) 36227332) .Add (.s " " 36237838) 36227338) 36226212 36226288) (.K (.a 2 (.r (.r (.r (.v 2 36249769) .Add (.r (.s "0" 36250825) .Mult (.r (.i 5 36251880) .Sub (.c 1 36252486 [(.c 0 36253090 [(.v 6 36253694)] 36253095)] 36252496) 36251896) 36250847) 36249797) .Add (.c 0 36255053 [(.v 6 36255657)] 36255058) 36249808) .Add (.ifexp (.q (.v 4 36258526) .Eq (.s "used" 36259586) 36258536) (.s " n \n" 36256869) (.s " f \n" 36261399) (z 36256899)) 36249850) 36248712 36248800) .nil))
def pd:CB gb:= .K (.a 2 (.s "xref\n" 36159169) 36158108 36158119) (.K (.for_ iD (.c 3 36182724 [(.c 2 36183779 [(.v 0 36184535)] 36183786)] 36182737) iE ⟨1608,4,1611,100⟩) (.K (.t (.c 4 36271672 [(.r (.r (.r (.v 2 36273477) .Add (.s "trailer << " 36274543) 36273493) .Add (.v 1 36276950) 36273500) .Add (.s ">>" 36278007) 36273507)] 36271708) 36270658) .nil))
theorem yr:DT gb 1846 1845 2 pd:=dm (tF 232) vk
def g9:Fn:=bZ "_law_stream" (tF 233) ["table","keys","rows","places","number","way","one","two","text"] [gB vX,gB m4,gB sJ,gB bO,gC mK,gB lX]
def pe:eF g9:=(.name 4 (z 36338714))
def pf:CB g9:= .K (.unpack (.u (.v 0 36363629) (.v 4 36364536) 36363637) [(5,(z 36361211)),(6,(z 36361966)),(7,(z 36362721))] 0 (z 36361221) (z 36361237)) (.K (.a 2 (.r (.v 2 36384769) .Add (.l 36385930 [(.m "index" (.l 36385999 [(.s "free" 36386130),(.s "used" 36387338),(.s "packed" 36388548)]) 36386005 36386010 [(.v 5 36390959)]),(.i 0 36391863),(.r (.v 6 36392318) .FloorDiv (.i 65536 36393377) 36392327),(.r (.r (.v 6 36394432) .FloorDiv (.i 256 36395489) 36394439) .Mod (.i 256 36396395) 36394445),(.r (.v 6 36397150) .Mod (.i 256 36398056) 36397156),(.r (.v 7 36398811) .FloorDiv (.i 256 36399868) 36398818),(.r (.v 7 36400623) .Mod (.i 256 36401529) 36400629)]) 36384880) 36383712 36383830) (.K (.a 3 (.r (.r (.v 3 36407573) .Add (.c 0 36408929 [(.v 4 36409536)] 36408937) 36407587) .Add (.s " 1 " 36411045) 36407595) 36406214 36406245) .nil))
def sd:CB g9:= .K (.unpackR (.t 36317877 [(.l 36318022 []),(.s "" 36318626)]) [(2,"rows",(z 36315608)),(3,"places",(z 36316516))] 0 (z 36315616) (z 36315627) (Jn zk) (fun _=>zk)) (.K (.for_ pe (.c 2 36340224 [(.c 1 36341279 [(.v 0 36342035)] 36341286)] 36340237) pf ⟨1615,4,1618,45⟩) (.K (.a 8 (.r (.r (.r (.r (.r (.r (.s "90 0 obj << /Type /XRef /W [ 1 4 2 ] /Index [ " 36429209) .Add (.v 3 36436868) 36429218) .Add (.s "] " 36438225) 36429225) .Add (.v 1 36439282) 36429232) .Add (.s "/Length " 36440345) 36429245) .Add (.c 0 36442301 [(.c 3 36442905 [(.v 2 36443510)] 36442911)] 36442312) 36429262) .Add (.s " >>\nstream\n" 36444880) 36429280) 36428108 36428230) (.K (.t (.r (.r (.c 4 36451672 [(.v 8 36453477)] 36451678) .Add (.c 5 36454686 [(.v 2 36455591)] 36454692) 36451692) .Add (.bytes [10,101,110,100,115,116,114,101,97,109,32,101,110,100,111,98,106] 0 (z 36456816)) 36451716) 36450666) .nil)))
theorem A8:DT g9 1853 1852 2 sd:=dm (tF 233) vk
def aP:Fn:=bZ "_law_laid" (tF 234) ["pen","world","before","is_newest","kind","keys","trailer","table","joined_rows","lower","number","key","place"] [gC g7,gC yq,gB gW,gB bO,gC wQ,gB vX,gC uZ]
def jd:eF aP:=(.name 10 (z 36744318))
def je:CB aP:= .K (.ite (.all .Or [(.q (.v 10 36767271) .NotIn (.v 7 36769384) 36767284),(.q (.u (.u (.v 7 36770743) (.v 10 36771650) 36770751) (.i 0 36772853) 36770754) .Eq (.s "free" 36773764) 36770764)] (z 36767314)) (.K (.setitem (.u (.v 9 36793243) (.v 10 36794150) 36793251) (.v 8 36789927) (.v 10 36791734) (z 36789935) (z 36789951)) .nil) .nil ⟨1634,12,1635,51⟩) .nil
def ui:eF aP:=(.name 11 (z 36811211))
def uj:CB aP:= .K (.a 5 (.r (.r (.r (.r (.r (.v 5 36834769) .Add (.s "/" 36835825) 36834775) .Add (.v 11 36836731) 36834781) .Add (.s " " 36837637) 36834787) .Add (.c 5 36838543 [(.u (.v 6 36839151) (.v 11 36840355) 36839156)] 36838557) 36834807) .Add (.s " " 36841563) 36834813) 36833712 36833763) .nil
def mM:CB aP:= .cons (.setitem (.r (.l 36902296 [(.t 36902445 [(.v 12 36902572),(.v 8 36903635),(.v 6 36905594)])]) .Add (.u (.v 1 36907404) (.i 1 36908306) 36907407) 36902307) (.v 1 36900609) (.i 1 36901511) (z 36900612) (z 36900657)) .nil
def CD:CB aP:= .cons (.setitem (.r (.r (.u (.v 1 36879770) (.i 0 36880672) 36879773) .Add (.bytes [10] 0 (z 36881431)) 36879781) .Add (.ifexp (.q (.v 4 36887017) .Eq (.i 1 36888222) 36887022) (.c 4 36882796 [(.v 7 36884602),(.v 5 36885658)] 36882809) (.c 6 36889290 [(.v 7 36891246),(.v 5 36892302)] 36889303) (z 36882853)) 36879854) (.v 1 36878109) (.i 0 36879011) (z 36878112) (z 36878204)) mM
def CF:CB aP:= .cons (.a 12 (.r (.c 3 36856815 [(.u (.v 1 36857421) (.i 0 36858323) 36857424)] 36856825) .Add (.c 0 36859237 [(.v 0 36860741),(.i 2 36861494)] 36859245) 36856845) 36855609 36855645) CD
def mN:CB aP:= .cons (.for_ ui (.v 6 36812272) uj ⟨1636,4,1637,63⟩) CF
def uk:CB aP:= .cons (.ite (.q (.v 4 36653561) .Eq (.i 2 36654766) 36653566) (.K (.a 9 (.c 1 36677426 [(.v 0 36679080),(.l 36679860 [(.s "packed" 36679991),(.s "used" 36681499),(.s "packed" 36682709)])] 36677461) 36676213 36676261) (.K (.setitem (.r (.c 3 36701882 [(.u (.v 1 36702488) (.i 0 36703390) 36702491)] 36701892) .Add (.i 1 36704296) 36701896) (.v 6 36698715) (.s "XRefStm" 36699925) (z 36698726) (z 36698746)) (.K (.setitem (.r (.r (.u (.v 1 36722874) (.i 0 36723776) 36722877) .Add (.bytes [10] 0 (z 36724535)) 36722885) .Add (.c 4 36725749 [(.v 9 36727555),(.s "/Size 9 " 36728617)] 36725768) 36722918) (.v 1 36721213) (.i 0 36722115) (z 36721216) (z 36721268)) (.K (.for_ jd (.v 9 36745827) je ⟨1633,8,1635,51⟩) .nil)))) .nil ⟨1629,4,1635,51⟩) mN
def um:CB aP:= .cons (.a 8 (.c 2 36632722 [(.v 7 36633478)] 36632729) 36630615 36630629) uk
def jf:CB aP:= .cons (.a 7 (.c 1 36609322 [(.v 0 36610976),(.ifexp (.q (.v 4 36616262) .Eq (.i 1 36617467) 36616267) (.l 36611754 [(.s "used" 36611885),(.s "free" 36613093),(.s "packed" 36614303)]) (.l 36618539 [(.s "used" 36618680),(.s "free" 36619888)]) (z 36611789))] 36609390) 36608109 36608190) um
def mO:CB aP:= .cons (.ite (.all .Or [(.val (.v 3 36563566)),(.q (.c 0 36565529 [(.v 0 36567033),(.i 2 36567786)] 36565537) .Eq (.i 0 36568692) 36565542)] (z 36563592)) (.K (.setitem (.c 0 36588935 [(.v 0 36590439),(.i 50 36591193)] 36588944) (.v 6 36586215) (.s "Mark" 36587422) (z 36586223) (z 36586244)) .nil) .nil ⟨1625,4,1626,44⟩) jf
def CG:CB aP:= .cons (.ite (.q (.v 2 36518563) .IsNot (.o 36520675) 36518575) (.K (.setitem (.v 2 36543932) (.v 6 36541215) (.s "Prev" 36542422) (z 36541223) (z 36541232)) .nil) .nil ⟨1623,4,1624,32⟩) mO
def CH:CB aP:= .cons (.unpackR (.t 36498962 [(.c 0 36499086 [(.v 0 36500590),(.i 3 36501343)] 36499094),(.s "" 36501948),(.dict1 "Size" 0 (z 36502707) 9 0 (z 36503910) (z 36502561))]) [(4,"kind",(z 36495608)),(5,"keys",(z 36496514)),(6,"trailer",(z 36497423))] 0 (z 36495623) (z 36495662) (Jn zk) (fun _=>zk)) CG
def wV:CB aP:=CH
theorem Ec:DT aP 1860 1859 4 wV:=dm (tF 234) vk
def fX:Fn:=jF "_law_rows" (zM (tF 235)) ["entries"] [.cell] false [gB gW] zk
def gc:Fn:=jF "_law_rows" ⟨.function,[(".0",.local),("number",.local),("entries",.cell)],false,false,[]⟩ ["number","entries"] [.local,.cell] true [] zk
noncomputable def j0:Scope:=⟨.function,[(".0",.local),("number",.local),("entries",.free)],false,false,[]⟩
theorem ta:cE fX gc j0 (some (0,1,"entries")):=qx zk zk zk
def pg:eF gc:=(.name 0 (z 36953160))
def ph:CE gc:=(.t 36947599 [(.v 0 36947724),(.m "told" (.u (.v 1 36948933) (.v 0 36950140) 36948941) 36948946 36948948 [])])
def qg:CB fX:= .K (.t (.c 0 36946665 [(.listcomp (G:=gc) pg none ph (.v 0 36954671) j0 (some (0,1,"entries")) (z 36947472) ta)] 36946723) 36945673) .nil
theorem Ed:(qg:CB fX).b=bg 0 (tF 235):=zk
theorem Ee (W:WW):ic fX Ω.w Ω.b 1865 (.ref 1864) (qg:CB fX).b 1 fun vv=>fX.names.zip vv:=
 m0 (st:=tF 235) (q:="_law_rows") (df:= .none) (pm:=vk) W zk zk (by rw[Ed];kernel_rfl) zk rfl (fun vv hn=>by obtain⟨v0,rfl⟩:=xt hn;kernel_rfl) (yN zk) zk (jG zk)
def bz:Fn:=jF "law" (zM (tF 237)) ["script","pen","many","way","world","before","turn","data","laid","begin","head","goal","ring","found","at","rows","keys","due","number","newest","kept","paper"] [.local,.local,.local,.local,.local,.local,.local,.local,.cell,.local,.local,.local,.local,.local,.local,.local,.local,.local,.local,.local,.local,.local] false [gC CA,gC g7,gC A5,gB gn,gC yp,gB vX,gB bO,gC iV,gB gW,gC rY,gC nZ,gC bR,gC JS,gC JR] zk
def se:Fn:=jF "law" ⟨.function,[(".0",.local),("one",.local),("_law_rows",.globalImplicit),("told_objects",.globalImplicit)],false,false,[]⟩ ["one"] [.local] true [gC rY,gC bR] zk
noncomputable def un:Scope:=⟨.function,[(".0",.local),("one",.local),("_law_rows",.globalImplicit),("told_objects",.globalImplicit)],false,false,[]⟩
theorem CJ:cE bz se un none:=kj zk zk
def sf:Fn:=jF "law" ⟨.function,[(".0",.local),("at",.local),("rows",.local),("keys",.local),("told_objects",.globalImplicit)],false,false,[]⟩ ["at","rows","keys"] [.local,.local,.local] true [gC bR] zk
noncomputable def uo:Scope:=⟨.function,[(".0",.local),("at",.local),("rows",.local),("keys",.local),("told_objects",.globalImplicit)],false,false,[]⟩
theorem CK:cE bz sf uo none:=kj zk zk
def mP:Fn:=jF "law" ⟨.function,[(".0",.local),("key",.local),("laid",.cell)],false,false,[]⟩ ["key","laid"] [.local,.cell] true [] zk
noncomputable def uq:Scope:=⟨.function,[(".0",.local),("key",.local),("laid",.free)],false,false,[]⟩
theorem CL:cE bz mP uq (some (8,1,"laid")):=qx zk zk zk
def H7:eF bz:=(.name 6 (z 37261212))
def H8:CB bz:= .K (.expr (.c 2 37283717 [(.v 1 37285221),(.v 4 37285978),(.v 5 37287036),(.q (.v 6 37288242) .Eq (.r (.v 2 37289450) .Sub (.i 1 37290504) 37289454) 37288254)] 37283755) (z 37283755)) (.K (.a 5 (.u (.u (.u (.v 4 37307572) (.i 1 37308474) 37307575) (.i 0 37308927) 37307578) (.i 0 37309380) 37307581) 37306214 37306231) .nil)
def CM:eF se:=(.name 0 (z 37608375))
def CN:CE se:=(.t 37598767 [(.attr (.v 0 37598862) .at (z 37598865)),(.c 0 37600076 [(.attr (.v 0 37601580) .entries (z 37601588))] 37600089),(.c 1 37603703 [(.attr (.v 0 37605657) .trailer (z 37605665))] 37603716)])
def CO:eF sf:=(.tup [(0,(z 37616377)),(1,(z 37616983)),(2,(z 37617889))] 0 (z 37616389))
def CP:CE sf:=(.t 37611120 [(.v 0 37611243),(.v 1 37611849),(.c 0 37612763 [(.v 2 37614718)] 37612769)])
def H9:eF bz:=(.tup [(14,(z 37666210)),(15,(z 37666816)),(16,(z 37667722))] 0 (z 37666222))
def Ef:eF bz:=(.name 18 (z 37689318))
def Eg:CB bz:= .K (.setitem (.u (.v 15 37713930) (.v 18 37714687) 37713938) (.v 17 37711815) (.v 18 37712422) (z 37711823) (z 37711838)) .nil
def Ia:CB bz:= .K (.for_ Ef (.v 15 37690826) Eg ⟨1675,8,1676,38⟩) .nil
def CQ:CT mP:=(.q (.v 0 37764818) .Eq (.s "Mark" 37765878) 37764828)
def CR:eF mP:=(.name 0 (z 37761647))
def CU:CE mP:=(.t 37757589 [(.v 0 37757721),(.u (.u (.u (.v 1 37758477) (.i 0 37759229) 37758480) (.i 2 37759682) 37758483) (.v 0 37760137) 37758488)])
def JT:CB bz:= .cons (.t (.allv .And [(.q (.c 9 37846670 [(.attr (.v 21 37848176) .entries (z 37848184))] 37846685) .Eq (.v 17 37850892) 37846692),(.q (.c 11 37852109 [(.attr (.v 21 37854065) .trailer (z 37854073))] 37852124) .Eq (.c 11 37856790 [(.u (.u (.v 8 37858745) (.i 0 37859497) 37858748) (.i 2 37859950) 37858751)] 37856802) 37852152),(.q (.m "entry" (.v 21 37861313) 37861319 37861323 [(.i 99 37863122)]) .Is (.o 37864181) 37861331)] (z 37846782)) 37845732) .nil
def JU:CB bz:= .cons (.a 21 (.c 13 37824316 [(.r (.v 7 37825071) .Add (.c 12 37826128 [(.v 9 37826884)] 37826135) 37825085)] 37824336) 37823109 37823136) JT
def JV:CB bz:= .cons (.ite (.all .Or [(.q (.c 9 37778566 [(.v 19 37780073)] 37778574) .NotEq (.v 17 37781731) 37778581),(.q (.c 11 37782797 [(.c 10 37784764 [(.v 13 37787320)] 37784771)] 37782822) .NotEq (.c 11 37788988 [(.v 20 37790943)] 37788994) 37782844)] (z 37778644)) (.K (.t (.bool false 0 (z 37802270)) 37801220) .nil) .nil ⟨1679,4,1680,20⟩) JU
def JW:CB bz:= .cons (.a 20 (.c 8 37756665 [(.listcomp (G:=mP) CR (some CQ) CU (.u (.u (.v 8 37762705) (.i 0 37763457) 37762708) (.i 2 37763910) 37762711) uq (some (8,1,"laid")) (z 37757479) CL)] 37756730) 37755608 37755680) JV
def JX:CB bz:= .cons (.a 19 (.c 7 37734477 [(.v 13 37736733)] 37734484) 37733110 37733134) JW
def JY:CB bz:= .cons (.for_ H9 (.slice (.v 8 37668930) none none (some (.neg 1 0 (z 37669985) (z 37670135))) (z 37669685) (z 37668936)) Ia ⟨1674,4,1676,38⟩) JX
def JZ:CB bz:= .cons (.a 17 (.dict0 (z 37644012)) 37643107 37643112) JY
def J0:CB bz:= .cons (.ite (.q (.listcomp (G:=se) CM none CN (.v 13 37609434) un none (z 37598635) CJ) .NotEq (.listcomp (G:=sf) CO none CP (.v 8 37619097) uo none (z 37610998) CK) 37598698) (.K (.t (.bool false 0 (z 37622270)) 37621220) .nil) .nil ⟨1671,4,1672,20⟩) JZ
def E7:CB bz:= .cons (.a 13 (.c 4 37576822 [(.v 7 37578477),(.v 9 37579384)] 37576835) 37575609 37575635) J0
def Ib:CB bz:= .cons (.ite (.q (.v 3 37486060) .Eq (.i 3 37487115) 37486065) (.K (.a 11 (.r (.c 6 37509768 [(.v 7 37510373)] 37509774) .Add (.i 1 37511578) 37509778) 37508712 37508728) (.K (.a 12 (.r (.r (.bytes [10,120,114,101,102,10,48,32,48,10,116,114,97,105,108,101,114,32,60,60,32,47,80,114,101,118,32] 0 (z 37532298)) .Add (.m "encode" (.c 5 37537704 [(.v 11 37538309)] 37537710) 37537717 37537726 [(.s "ascii" 37540275)]) 37532326) .Add (.bytes [32,62,62,10] 0 (z 37541937)) 37532337) 37531212 37531287) (.K (.t (.q (.c 4 37554775 [(.r (.v 7 37556430) .Add (.v 12 37557487) 37556437),(.v 11 37558393)] 37554794) .Eq (.v 11 37559752) 37554802) 37553752) .nil))) .nil ⟨1666,4,1669,52⟩) E7
def Ic:CB bz:= .cons (.ite (.q (.v 3 37418560) .Eq (.i 2 37419615) 37418565) (.K (.a 10 (.r (.r (.bytes [10,120,114,101,102,10,48,32,48,10,116,114,97,105,108,101,114,32,60,60,32,47,80,114,101,118,32] 0 (z 37442298)) .Add (.m "encode" (.c 5 37447704 [(.v 9 37448310)] 37447711) 37447718 37447727 [(.s "ascii" 37450426)]) 37442327) .Add (.bytes [32,47,88,82,101,102,83,116,109,32,57,57,57,57,57,32,62,62] 0 (z 37452101)) 37442351) 37441212 37441301) (.K (.t (.q (.c 4 37464775 [(.r (.v 7 37466430) .Add (.v 10 37467487) 37466437),(.c 6 37468392 [(.v 7 37468997)] 37468398)] 37464799) .Eq (.r (.i 0 37470504) .Sub (.i 1 37471108) 37470508) 37464808) 37463758) .nil)) .nil ⟨1663,4,1665,58⟩) Ib
def Id:CB bz:= .cons (.ite (.q (.v 3 37373560) .Eq (.i 1 37374615) 37373565) (.K (.t (.q (.c 4 37397275 [(.v 7 37398930),(.v 9 37399837)] 37397288) .Eq (.r (.i 0 37401343) .Sub (.i 1 37401947) 37401347) 37397297) 37396247) .nil) .nil ⟨1661,4,1662,47⟩) Ic
def Ie:CB bz:= .cons (.a 9 (.u (.u (.v 8 37351816) (.i 0 37352568) 37351819) (.i 0 37353021) 37351822) 37350609 37350622) Id
def Ig:CB bz:= .cons (.unpackP (.t 37330095 [(.r (.u (.v 4 37330223) (.i 0 37331125) 37330226) .Add (.bytes [10] 0 (z 37331884)) 37330234),(.u (.v 4 37332941) (.i 1 37333843) 37332944)]) (.tup [(7,(z 37328108)),(8,(z 37329014))] 0 (z 37328114)) (z 37328145) ⟨_,_,_,rfl⟩ (fun _=>zk)) Ie
def Ih:CB bz:= .cons (.for_ H7 (.c 3 37262421 [(.v 2 37263326)] 37262427) H8 ⟨1656,4,1658,31⟩) Ig
def Ii:CB bz:= .cons (.ite (.q (.v 3 37216060) .Eq (.i 1 37217115) 37216065) (.K (.a 5 (.i 9999 37240071) 37238714 37238721) .nil) .nil ⟨1654,4,1655,21⟩) Ih
def Ij:CB bz:= .cons (.unpackR (.t 37195549 [(.l 37195692 [(.bytes [37,80,68,70,45,49,46,55,10,37,120] 0 (z 37195837)),(.l 37198391 [])]),(.o 37199148)]) [(4,"world",(z 37193109)),(5,"before",(z 37194167))] 0 (z 37193117) (z 37193149) (Jn zk) (fun _=>zk)) Ii
def Ik:CB bz:= .cons (.unpackR (.t 37172458 [(.r (.i 1 37172568) .Add (.c 1 37173180 [(.v 1 37174684),(.i 4 37175437)] 37173188) 37172588),(.c 1 37176049 [(.v 1 37177553),(.i 6 37178306)] 37176057)]) [(2,"many",(z 37170608)),(3,"way",(z 37171513))] 0 (z 37170613) (z 37170658) (Jn zk) (fun _=>zk)) Ij
def Il:CB bz:= .cons (.a 1 (.c 0 37149018 [(.v 0 37150375)] 37149026) 37148107 37148126) Ik
def Im:CB bz:=Il
theorem QK:(Im:CB bz).b=bg 0 (tF 237):=zk
theorem QL (W:WW):ic bz Ω.w Ω.b 1877 (.ref 1876) (Im:CB bz).b 1 fun vv=>bz.names.zip vv:=
 m0 (st:=tF 237) (q:="law") (df:= .none) (pm:=vk) W zk zk (by rw[QK];kernel_rfl) zk rfl (fun vv hn=>by obtain⟨v0,rfl⟩:=xt hn;kernel_rfl) (yN zk) zk (jG zk)
end
set_option tactic.hygienic false
noncomputable section
open MeetsSeq
def bD (σ:AS) (d:Addr) (rows:List aY):Prop:=∃ep l,σ d=some (.dict ep (ag l))/\(∀x∈l,σ x.a=some (.tup [.str x.r.way,.int x.r.one,.int x.r.two]))/\l.map (·.r)=rows
theorem bD.sub {σ UH:AS} {d:Addr} {rows:List aY} (h:bD σ d rows) (S:σ.Sub UH):bD UH d rows:=let ⟨ep,l,h1,h2,h3⟩:=h;⟨ep,l,S _ _ h1,fun x hx=>S _ _ (h2 x hx),h3⟩
theorem A9 (W:WW) {x:ER} (h:cZ σ x) (hq:∀T,σ T=none->Q (.ref T) (σ.set T (.tup [.str x.r.way,.int x.r.one,.int x.r.two]))):aa (k+1) (.ref 758) [.ref x.a] σ Q X:=by
 obtain⟨N,h1,h2⟩:=h;show(af W re (Am W) rfl zd ?_).call;right;show⟨zy rfl,?_⟩;show hq
theorem Gf (W:WW) {E:Addr} {ep:Nat} {all:List ER} (nd:(all.map (·.r.n)).Nodup) (R:List AV->AS->Prop):∀(rs:List ER) (Uq:List (Addr×ER)) (x:Option AV) (σ:AS),(∀y∈rs,y∈all)->(∀y∈all,cZ σ y)->σ E=some (.dict ep (ag all))->
 (∀y∈Uq,σ y.1=some (.tup [.int y.2.r.n,.ref y.2.a])/\σ y.2.a=some (.tup [.str y.2.r.way,.int y.2.r.one,.int y.2.r.two]))->
 (∀(UH:AS) (Ur:List (Addr×ER)),σ.Sub UH->Ur.map (·.2.r)=Uq.map (·.2.r)++rs.map (·.r)->(∀y∈Ur,UH y.1=some (.tup [.int y.2.r.n,.ref y.2.a])/\UH y.2.a=some (.tup [.str y.2.r.way,.int y.2.r.one,.int y.2.r.two]))->R (Ur.map fun x=> .ref x.1) UH)->
 bN (pg) none ph (fun σ=>σ E=some (.dict ep (ag all))) (k+1) R (rs.map fun y=> .int y.r.n) (Uq.map fun x=> .ref x.1) [x,some (.ref E)] σ:=by
 intro rs;induction rs with
 | nil=>intro Uq x σ hm he hE ha h;show h σ Uq AS.Sub.rfl zs ha
 | cons y rs ih=>
  intro Uq x σ hm he hE ha h;have hy:=hm y bJ;obtain⟨N,y1,y2⟩:=id (he y hy);rw[dI];left;show a8 (x:= .i y.r.n) hE (cR nd hy) ?_;show ad y1 y2 (f:=758) zk ?_;show A9 W (he y hy) fun U hU=>?_;have S:=AS.Sub.set (o:= .tup [.str y.r.way,.int y.r.one,.int y.r.two]) hU;show⟨zy rfl,?_⟩;intro T hT;have S2:=AS.Sub.set (o:= .tup [.int y.r.n,.ref U]) hT;have S3:=S.trans S2;show⟨S3 _ _ hE,?_⟩;have e:(Uq.map fun x:Addr×ER=>AV.ref x.1)++[.ref T]=(Uq++[((T,⟨U,y.r⟩):Addr×ER)]).map fun x=> .ref x.1:=zs;change bN _ _ _ _ _ _ _ ((Uq.map fun x:Addr×ER=>AV.ref x.1)++[.ref T]) _ _;rw[e];show ih _ _ _ (fun z hz=>hm z (du _ hz)) (fun z hz=>(he z hz).sub S3) (S3 _ _ hE) (fun z hz=>?_) fun UH Ur S4 e2 h2=>h UH Ur (S3.trans S4) (by rw[e2];simp) h2;rcases eL.mp hz with hz | hz
  . show⟨S3 _ _ (ha z hz).1,S3 _ _ (ha z hz).2⟩
  . cases dK.mp hz;show⟨AS.UJ,S2 _ _ AS.UJ⟩
theorem qh (W:WW) {E:Addr} {rows:List aY} (hE:di σ E rows) (nd:(rows.map (·.n)).Nodup) (hz:rows.length<=1000) (hq:∀F UH,σ.Sub UH->bD UH F rows->Q (.ref F) UH):aa (k+2) (.ref 1865) [.ref E] σ Q X:=by
 show aH hE fun ep all h1 h2 hr4=>?_;subst hr4;rw[bq] at nd;rw[a9] at hz;show(sv W qg (Ee W) rfl zd ?_).call;show iO.of cQ h1 (by rw[a9,a9];lia) ?_;have ek:((ag all).map fun p=>p.1.av)=all.map fun y=>AV.int y.r.n:=by rw[bq];rfl
 rw[ek];show Gf W nd _ all [] none σ (fun _ h=>h) h2 h1 aF fun UH Uq S2 e2 hA p hp=>?_;rw[EA,Bg] at e2;have l2:Uq.length<=1000:=by
  have:=congrArg List.length e2;rw[a9,a9] at this;lia
 have S3:=AS.Sub.set (o:= .list (Uq.map fun x:Addr×ER=> .ref x.1)) hp;have ep2:(Uq.map fun x:Addr×ER=>AV.ref x.1)=(Uq.map fun x:Addr×ER=>((x.1,.i x.2.r.n,.ref x.2.a):DP)).map fun x=> .ref x.1:=by rw[bq];rfl
 show jy (ps:=Uq.map fun x:Addr×ER=>((x.1,.i x.2.r.n,.ref x.2.a):DP)) (by rw[AS.UJ,<-ep2]) (fun x hx=>?_) zm fun F ef hF=>?_
 . show ae (bp.mp hx) fun z hz hr2=>?_;subst hr2;show .inl (S3 _ _ (hA z hz).1)
 have S4:=AS.Sub.set (o:= .dict ef (dE [] (Uq.map fun x:Addr×ER=>((x.1,.i x.2.r.n,.ref x.2.a):DP)))) hF;have e3:dE [] (Uq.map fun x:Addr×ER=>((x.1,.i x.2.r.n,.ref x.2.a):DP))=ag (Uq.map (·.2)):=by
  have e5:ag (Uq.map (·.2))=Uq.map fun x:Addr×ER=>(AK.i x.2.r.n,AV.ref x.2.a):=bq;rw[nk,Bg,bq,e5]
  . rfl
  . rw[EA,Bg,bq];have e4:Uq.map (fun x:Addr×ER=>(AK.i x.2.r.n))=(all.map (·.r.n)).map fun n:Nat=>AK.i (n:Int):=by
     have:=congrArg (List.map fun r:aY=>AK.i (r.n:Int)) e2;rw[bq,bq] at this;rw[bq];show this
    change(Uq.map fun x:Addr×ER=>(AK.i x.2.r.n)).Nodup;rw[e4,List.Nodup,IZ];show List.Pairwise.imp (fun h e=>h (by have:=AK.i.inj e;lia)) nd
 show hq F _ ((S2.trans S3).trans S4) ⟨ef,Uq.map (·.2),by rw[AS.UJ,e3],fun x hx=>?_,by rw[bq];show e2⟩;show ae (bp.mp hx) fun z hz hr2=>?_;subst hr2;show S4 _ _ (S3 _ _ (hA z hz).2)
theorem bD.deq {a b:Addr} {r1 r2:List aY} (h1:bD σ a r1) (h2:bD σ b r2) (nd:(r2.map (·.n)).Nodup) (p:r1.Perm r2):Bj σ 2 (.ref a) (.ref b):=by
 show aH h1 fun e1 l1 q1 q2 hr4=>?_;subst hr4;show aH h2 fun e2 l2 p1 p2 hr4=>?_;subst hr4;rw[bq] at nd;have er:∀l:List ER,ag l=(l.map fun x=>((x.r.n:Int),AV.ref x.a)).map fun p=>((.i p.1:AK),p.2):=fun l=>by rw[bq];rfl
 have get:∀x∈l1,∃y∈l2,y.r=x.r:=fun x hx=>by
  have:=p.subset (bp.mpr ⟨x,hx,rfl⟩);show ae (bp.mp this) fun y hy e=>?_;show⟨y,hy,e⟩
 have len:l1.length=l2.length:=by have:=p.length_eq;rwa [a9,a9] at this
 show .dict (xs:=l1.map fun x=>((x.r.n:Int),AV.ref x.a)) (ys:=l2.map fun x=>((x.r.n:Int),AV.ref x.a)) (by rw[q1,er]) (by rw[p1,er]) (by simpa using len) (fun i x hx=>?_) fun i x v hx hv=>?_
 . rw[nG] at hx;cases q:l1[i]? with
   | none=>rw[q] at hx;cases hx
   | some z=>
    rw[q] at hx;obtain rfl:=ql hx;show ae (get z (zz q)) fun y hy e=>?_;rw[<-er];change(bl (ag l2) (AK.i (z.r.n:Int))).isSome=true;rw[<-e,cR nd hy];rfl
 . rw[nG] at hx;cases q:l1[i]? with
   | none=>rw[q] at hx;cases hx
   | some z=>
    rw[q] at hx;obtain rfl:=ql hx;show ae (get z (zz q)) fun y hy e=>?_;rw[<-er] at hv;have hv:bl (ag l2) (AK.i (z.r.n:Int))=some v:=hv;rw[<-e,cR nd hy] at hv;cases hv;have t1:=q2 z (zz q);have t2:=p2 y hy;rw[e] at t2;show .tup t1 t2 rfl fun i x y hx hy=>?_;rw[hx] at hy;cases hy
    match i,hx with
    | 0,h=>cases h;show .str _
    | 1,h=>cases h;show .int _
    | 2,h=>cases h;show .int _
theorem CV (W:WW) {d:Addr} {ep:Nat} {xs:List (AK×AV)} (h:σ d=some (.dict ep xs)) (hq:Q (.str "dict") σ):aa (k+1) (.ref 433) [.ref d] σ Q X:=by
 show(af W sK (yT W) rfl zd ?_).call;left;show cH W (fc h) (b:=false) zk ?_;left;show cH W (fc h) (b:=false) zk ?_;left;show m6 W (fc h) (b:=false) zk ?_;left;show m6 W (fc h) (b:=false) zk ?_;left;show m6 W (fc h) (b:=false) zk ?_;left;show cH W (fc h) (b:=false) zk ?_;left;show cH W (fc h) (b:=true) zk ?_;left;show hq
theorem Eh (W:WW) {n:Nat} (hq:∀T,σ T=none->Q (.ref T) (σ.set T (.tup [.str "int",.int n]))):aa (k+2) (.ref 445) [.int n] σ Q X:=by
 show(sv W Ad (Hm W) rfl zd ?_).call;show p8 W ?_;left;show(af W qL (Aa W) rfl zd ?_).call;left;show⟨zy rfl,?_⟩;show hq
abbrev TD:=Addr×Addr×Str×Nat
def jA (σ:AS) (T:Addr) (l:List (Str×Nat)):Prop:=∃ts:List TD,σ T=some (.tup (.str "dict"::ts.map fun t=> .ref t.1))/\(∀t∈ts,σ t.1=some (.tup [.str t.2.2.1,.ref t.2.1])/\σ t.2.1=some (.tup [.str "int",.int t.2.2.2]))/\ts.map (·.2.2)=l
theorem jA.sub {σ UH:AS} {T:Addr} {l:List (Str×Nat)} (h:jA σ T l) (S:σ.Sub UH):jA UH T l:=let ⟨ts,h1,h2,h3⟩:=h;⟨ts,S _ _ h1,fun t ht=>⟨S _ _ (h2 t ht).1,S _ _ (h2 t ht).2⟩,h3⟩
theorem jA.deq {a b:Addr} {l:List (Str×Nat)} (h1:jA σ a l) (h2:jA σ b l):Bj σ 3 (.ref a) (.ref b):=by
 show j8 h1 fun t1 p1 p2 hr3=>?_;subst hr3;show j8 h2 fun t2 q1 q2 e=>?_;have len:t1.length=t2.length:=by have:=congrArg List.length e;rw[a9,a9] at this;show this.symm
 show .tup p1 q1 (by simp [len]) fun i x y hx hy=>?_
 match i,hx,hy with
 | 0,hx,hy=>obtain rfl:=ql hx;obtain rfl:=ql hy;show .str _
 | i+1,hx,hy=>
  rw[List.getElem?_cons_succ,nG] at hx hy;cases z1:t1[i]? with
  | none=>rw[z1] at hx;cases hx
  | some u1=>
   cases z2:t2[i]? with
   | none=>rw[z2] at hy;cases hy
   | some u2=>
    rw[z1] at hx;rw[z2] at hy;obtain rfl:=ql hx;obtain rfl:=ql hy;have e1:u2.2.2=u1.2.2:=by
     have:=congrArg (·[i]?) e;simp only [nG,z1,z2] at this;show ql this
    show aL (p2 u1 (zz z1)) fun a1 a2=>?_;show aL (q2 u2 (zz z2)) fun b1 b2=>?_;rw[e1] at b1 b2;show .tup a1 b1 rfl fun i x y hx hy=>?_
    match i,hx,hy with
    | 0,hx,hy=>obtain rfl:=ql hx;obtain rfl:=ql hy;show .str _
    | 1,hx,hy=>
     obtain rfl:=ql hx;obtain rfl:=ql hy;show .tup a2 b2 rfl fun i x y hx hy=>?_
     match i,hx,hy with
     | 0,hx,hy=>obtain rfl:=ql hx;obtain rfl:=ql hy;show .str _
     | 1,hx,hy=>cases hx;cases hy;show .int _
noncomputable def Ei (ys:List (Str×Nat)) (s:Str):Nat:=((ys.find? fun y=>y.1=s).map (·.2)).getD 0
theorem J1 {ys:List (Str×Nat)} (nd:(ys.map (·.1)).Nodup) {y:Str×Nat} (h:y∈ys):Ei ys y.1=y.2:=by
 unfold Ei;induction ys with
 | nil=>cases h
 | cons z ys ih=>
  rw[dI,GT] at nd;rw[List.find?_cons];rcases mV h with rfl | h
  . simp
  . have:z.1≠y.1:=fun e=>nd.1 (by rw[e];show bp.mpr ⟨y,h,rfl⟩);rw[uw this];show ih nd.2 h
theorem Gg (W:WW) {d I:Addr} {ep:Nat} {ys:List (Str×Nat)} {all:List Str} (nd:(ys.map (·.1)).Nodup) (R:List AV->AS->Prop):∀(rs:List Str) (Uq:List TD) (x:Option AV) (σ:AS),(∀s∈rs,s∈ys.map (·.1))->σ d=some (.dict ep (ys.map fun y=>(.s y.1,.int y.2)))->σ I=some (.list (all.map .str))->
 (∀t∈Uq,σ t.1=some (.tup [.str t.2.2.1,.ref t.2.1])/\σ t.2.1=some (.tup [.str "int",.int t.2.2.2]))->
 (∀(UH:AS) (Ur:List TD),σ.Sub UH->Ur.map (·.2.2)=Uq.map (·.2.2)++rs.map (fun s=>(s,Ei ys s))->(∀t∈Ur,UH t.1=some (.tup [.str t.2.2.1,.ref t.2.1])/\UH t.2.1=some (.tup [.str "int",.int t.2.2.2]))->R (Ur.map fun t=> .ref t.1) UH)->
 bN (yV) (some yU) yW (fun σ=>σ I=some (.list (all.map .str))) (k+2) R (rs.map .str) (Uq.map fun t=> .ref t.1) [x,some (.ref d)] σ:=by
 intro rs;induction rs with
 | nil=>intro Uq x σ hm hd hI ha h;show h σ Uq AS.Sub.rfl zs ha
 | cons s rs ih=>
  intro Uq x σ hm hd hI ha h;show ae (bp.mp (hm s bJ)) fun y hy hr2=>?_;subst hr2;have hg:=eN.get nd hy;rw[dI];show a8 (x:= .s y.1) hd hg ?_;left;show a8 (x:= .s y.1) hd hg ?_;show Eh W fun U hU=>?_;have S:=AS.Sub.set (o:= .tup [.str "int",.int y.2]) hU;show⟨zy rfl,?_⟩;intro T hT;have S2:=AS.Sub.set (o:= .tup [.str y.1,.ref U]) hT;have S3:=S.trans S2;show⟨S3 _ _ hI,?_⟩;have e:(Uq.map fun x:TD=>AV.ref x.1)++[.ref T]=(Uq++[((T,U,y.1,y.2):TD)]).map fun x=> .ref x.1:=zs;change bN _ _ _ _ _ _ _ ((Uq.map fun x:TD=>AV.ref x.1)++[.ref T]) _ _;rw[e];show ih _ _ _ (fun z hz=>hm z (du _ hz)) (S3 _ _ hd) (S3 _ _ hI) (fun z hz=>?_) fun UH Ur S4 e2 h2=>h UH Ur (S3.trans S4) (by rw[e2];simp [J1 nd hy]) h2;rcases eL.mp hz with hz | hz
  . show⟨S3 _ _ (ha z hz).1,S3 _ _ (ha z hz).2⟩
  . cases dK.mp hz;show⟨AS.UJ,S2 _ _ AS.UJ⟩
theorem tc (W:WW) {d:Addr} {ys:List (Str×Nat)} (hd:eN σ d ys) (nd:(ys.map (·.1)).Nodup) (hne:ys≠[]) (hz:ys.length<=60)
 (hq:∀(T:Addr) (UH:AS) (ss:List Str),σ.Sub UH->ss.Perm (ys.map (·.1))->sortedS ss=true->jA UH T (ss.map fun s=>(s,Ei ys s))->Q (.ref T) UH):aa (k+4) (.ref 445) [.ref d] σ Q X:=by
 show aw hd fun ep hd=>?_;show(sv W Ad (Hm W) rfl zd ?_).call;show CV W hd ?_;left;show⟨zy rfl,?_⟩;intro H hH;have S0:=AS.Sub.set (o:= .tup [.str "dict"]) hH;show wN (ys:=ys.map fun y=>(y.1,.int y.2)) (by rw[bq];show S0 _ _ hd) zm fun I ss hI hp hs=>?_;have S1:=AS.Sub.set (o:= .list (ss.map .str)) hI;rw[bq] at hp;have ls:ss.length=ys.length:=by have:=hp.length_eq;rwa [a9] at this
 show iO.of cw AS.UJ zm ?_;show Gg W (ys:=ys) nd _ ss [] none _ (fun s h=>hp.subset h) (S1 _ _ (S0 _ _ hd)) AS.UJ aF fun UH Uq S2 e2 hA p hp2=>?_;rw[EA,Bg] at e2;have la:Uq.length=ss.length:=by have:=congrArg List.length e2;rwa [a9,a9] at this
 have S3:=AS.Sub.set (o:= .list (Uq.map fun t:TD=> .ref t.1)) hp2;show Hf AS.UJ zm fun U hU=>?_;have S4:=AS.Sub.set (o:= .tup (Uq.map fun t:TD=> .ref t.1)) hU;have hne2:(Uq.map fun t:TD=>AV.ref t.1)≠[]:=fun e=>hne (List.length_eq_zero_iff.mp (by have:=congrArg List.length (List.map_eq_nil_iff.mp e);rw[List.length_nil] at this;lia));show G5 (S4 _ _ (S3 _ _ (S2 _ _ (S1 _ _ AS.UJ)))) AS.UJ nofun hne2 (by rw[a9];simp;lia) fun T hT=>?_;have S5:=AS.Sub.set (o:= .tup ([.str "dict"]++Uq.map fun t:TD=> .ref t.1)) hT;show hq T _ ss (((((S0.trans S1).trans S2).trans S3).trans S4).trans S5) hp hs ⟨Uq,AS.UJ,fun t ht=>⟨S5 _ _ (S4 _ _ (S3 _ _ (hA t ht).1)),S5 _ _ (S4 _ _ (S3 _ _ (hA t ht).2))⟩,e2⟩
end
set_option tactic.hygienic true
noncomputable section
open MeetsSeq
noncomputable def pS (σ:AS) (P L:Addr) (ns:List Int) (c v:Int):AS:=(σ.set L (.list (ns.map .int))).set P (.list [.ref L,.int c,.int v])
structure fL (σ:AS) (P L:Addr):Prop where
 p:σ P=none
 l:σ L=none
 ne:P≠L
theorem fL.atP {P L:Addr} {ns:List Int} {c v:Int}:pS σ P L ns c v P=some (.list [.ref L,.int c,.int v]):=AS.UJ
theorem fL.atL {P L:Addr} {ns:List Int} {c v:Int} (h:fL σ P L):pS σ P L ns c v L=some (.list (ns.map .int)):=(AS.UK (ez h.ne)).trans AS.UJ
theorem fL.setP {P L:Addr} {ns:List Int} {c v c' v':Int}:(pS σ P L ns c v).set P (.list [.ref L,.int c',.int v'])=pS σ P L ns c' v':=AS.UL
theorem fL.setL {P L:Addr} {ns ns':List Int} {c v:Int} (h:fL σ P L):(pS σ P L ns c v).set L (.list (ns'.map .int))=pS σ P L ns' c v:=by
 unfold pS;rw[AS.UN h.ne,AS.UL]
theorem fL.sub {P L:Addr} {ns:List Int} {c v:Int} (h:fL σ P L):σ.Sub (pS σ P L ns c v):=(AS.Sub.set h.l).trans (AS.Sub.set ((AS.UK h.ne).trans h.p))
theorem fL.set {P L T:Addr} {o:AO} {ns:List Int} {c v:Int} (hT:pS σ P L ns c v T=none):T≠P/\T≠L/\σ T=none/\(pS σ P L ns c v).set T o=pS (σ.set T o) P L ns c v:=by
 show aL (AS.UM hT) fun h1 h2=>?_;show aL (AS.UM h2) fun h3 h4=>?_;show⟨h1,h3,h4,?_⟩;unfold pS;rw[AS.UN (ez h1),AS.UN (ez h3)]
theorem fL.keep {P L T:Addr} {o:AO} (h:fL σ P L) (h1:T≠P) (h2:T≠L):fL (σ.set T o) P L:=⟨(AS.UK (ez h1)).trans h.p,(AS.UK (ez h2)).trans h.l,h.ne⟩
theorem CW {a:Int} {m:Nat} (hm:0<m):∃r:Nat,r<m/\a.fmod m=r:=by
 have h1:0<=a.fmod m:=Int.fmod_nonneg_of_pos _ zo;have h2:a.fmod m<m:=Int.fmod_lt_of_pos _ zo;show⟨(a.fmod m).toNat,zo,zo⟩
theorem ib {x:Int} {m:Nat} (h:m<=1000000):Builtin.divisionGoesByPylong x m=false:=by
 unfold Builtin.divisionGoesByPylong;have:(if ((m:Int)==0)=true then 0 else(m:Int).natAbs.log2/30+1)<=2:=by
  split
  . lia
  . rename_i h0;have hm:m≠0:=fun e=>h0 (by simp [e]);rw[Int.natAbs_natCast];have:m.log2<20:=(Nat.log2_lt hm).mpr zo;lia
 simp only;rw[uw zo,Bool.false_and]
theorem QM {P L:Addr} {ns:List Int} {c v c':Int} {Q':AS->Prop} (hq:Q' (pS σ P L ns c' v)):zJ k (.ref P) (.int 1) (.int c') (pS σ P L ns c v) Q' X:=
 lP (i:=1) fL.atP zl zl (by
  have e:(pS σ P L ns c v).set P (.list [.ref L,.int c',.int v])=pS σ P L ns c' v:=fL.setP;change Q' ((pS σ P L ns c v).set P (.list [.ref L,.int c',.int v]));rw[e];show hq)
theorem E8 {P L:Addr} {ns:List Int} {c v v':Int} {Q':AS->Prop} (hq:Q' (pS σ P L ns c v')):zJ k (.ref P) (.int 2) (.int v') (pS σ P L ns c v) Q' X:=
 lP (i:=2) fL.atP zl zl (by
  have e:(pS σ P L ns c v).set P (.list [.ref L,.int c,.int v'])=pS σ P L ns c v':=fL.setP;change Q' ((pS σ P L ns c v).set P (.list [.ref L,.int c,.int v']));rw[e];show hq)
theorem td (W:WW) {P L:Addr} {ns:List Int} {c v:Int} {m:Nat} (h:fL σ P L) (hm:0<m) (hz:m<=1000000) (hl:ns.length<=1000) (hq:∀(r:Nat) (ns':List Int) (c' v':Int),r<m->ns'.length<=1000->Q (.int r) (pS σ P L ns' c' v')):
 aa (k+1) (.ref 1820) [.ref P,.int m] (pS σ P L ns c v) Q X:=by
 show aa.forget ?_;show(af W wS (Ea W) rfl zd ?_).call;show ak (i:=1) fL.atP rfl zd ?_;show QM ?_;show ak (i:=2) fL.atP rfl zd ?_;have main:∀(σ2:AS) (ns2:List Int) (v2:Int),fL σ2 P L->σ.Sub σ2->ns2.length<=1000->∀r:Nat,r<m->∃UI,UI.Sub (pS σ2 P L ns2 (c+1) v2)/\Q (.int r) UI:=fun σ2 ns2 v2 h2 S2 l2 r hr=>⟨pS σ P L ns2 (c+1) v2,S2.up.up,hq r ns2 _ v2 hr l2⟩;have hmm:(m:Int)≠0:=zo;have pt:∀(σ2:AS) (ns2:List Int) (c2 v2:Int),fL σ2 P L->pS σ2 P L ns2 c2 v2 P=some (.list [.ref L,.int c2,.int v2]):=fun _ _ _ _ _=>fL.atP;show Br.mk (fun hv=>?_) (fun hv=>?_)
 . show ak (i:=0) fL.atP rfl zd ?_;show⟨zy rfl,?_⟩;intro Z hZ;show ux (fL.set (o:= .list []) hZ) fun z1 z2 z3 z4=>?_;have h2:=h.keep (o:= .list []) z1 z2;have S2:=AS.Sub.set (o:= .list []) z3;rw[z4];show l8 h2.atL ((h2.sub _ _ AS.UJ)) ?_;have fin:∀(σ2:AS) (ns2:List Int) (a v2:Int),fL σ2 P L->σ.Sub σ2->ns2.length<=1000->∃UI,UI.Sub (pS σ2 P L ns2 (c+1) v2)/\Q (.int (a.fmod m)) UI:=fun σ2 ns2 a v2 h2 S2 l2=>by
    show ae (CW (a:=a) hm) fun r r1 r2=>?_;rw[r2];show main σ2 ns2 v2 h2 S2 l2 r r1
   cases ns with
   | nil=>
    left;show ak (i:=2) fL.atP rfl zd ?_;show pF ?_;show⟨hmm,?_⟩;show ak (i:=2) fL.atP rfl zd ?_;show pF ?_;show⟨hmm,ib hz,?_⟩;show E8 ?_;show ak (i:=1) fL.atP rfl zd ?_;show⟨hmm,?_⟩;show fin _ _ _ _ h2 S2 hl
   | cons n ns=>
    left;show ak (i:=0) fL.atP rfl zd ?_;show vT h2.atL ?_;show Jc (v:= .int n) (xs:=ns.map .int) h2.atL (by rw[a9];simp at hl;lia) ?_;rw[h2.setL];show E8 ?_;show ak (i:=2) fL.atP rfl zd ?_;show pF ?_;show⟨hmm,?_⟩;show ak (i:=2) fL.atP rfl zd ?_;show pF ?_;show⟨hmm,ib hz,?_⟩;show E8 ?_;show ak (i:=1) fL.atP rfl zd ?_;show⟨hmm,?_⟩;show fin _ _ _ _ h2 S2 (by simp at hl;lia)
 . have fin:∀(ns2:List Int) (a v2:Int),ns2.length<=1000->∃UI,UI.Sub (pS σ P L ns2 (c+1) v2)/\Q (.int (a.fmod m)) UI:=fun ns2 a v2 l2=>by
    show ae (CW (a:=a) hm) fun r r1 r2=>?_;rw[r2];show main σ ns2 v2 h AS.Sub.rfl l2 r r1
   left;show ak (i:=2) fL.atP rfl zd ?_;show pF ?_;show⟨hmm,?_⟩;show ak (i:=2) fL.atP rfl zd ?_;show pF ?_;show⟨hmm,ib hz,?_⟩;show E8 ?_;show ak (i:=1) fL.atP rfl zd ?_;show⟨hmm,?_⟩;show fin _ _ _ hl
theorem M9 (W:WW) {P L I:Addr} {ns:List Int} {c v:Int} {ss:List Str} (h:fL σ P L) (hI:σ I=some (.list (ss.map .str))) (h0:ss≠[]) (hs:ss.length<=1000) (hl:ns.length<=1000)
 (hq:∀(s:Str) (ns':List Int) (c' v':Int),s∈ss->ns'.length<=1000->Q (.str s) (pS σ P L ns' c' v')):aa (k+2) (.ref 1827) [.ref P,.ref I] (pS σ P L ns c v) Q X:=by
 show(af W wU (Eb W) rfl zd ?_).call;show bE (h.sub _ _ hI) zm ?_;rw[a9];show td W h (List.length_pos_iff.mpr h0) zo hl fun r ns' c' v' hr l'=>?_;have e:(ss.map AV.str)[r]?=some (.str ss[r]):=by rw[nG,Bf hr];rfl
 show ak (i:=r) (h.sub _ _ hI) e zo ?_;show hq _ _ _ _ (List.getElem_mem hr) l'
theorem fL.setT {P L T:Addr} {o:AO} {ns:List Int} {c v:Int} (h1:T≠P) (h2:T≠L):(pS σ P L ns c v).set T o=pS (σ.set T o) P L ns c v:=by
 unfold pS;rw[AS.UN (ez h1),AS.UN (ez h2)]
theorem J2 {l:List ER} {x:ER} (h:(l.map (·.r.n)).Nodup):((iI l x).map (·.r.n)).Nodup:=by
 unfold iI;split
 . rename_i hx;have e:(l.map (fun y=>if y.r.n=x.r.n then x else y)).map (·.r.n)=l.map (·.r.n):=by
    rw[bq];apply GG;intro y _;change(if y.r.n=x.r.n then x else y).r.n=y.r.n;split
    . rename_i e;show e.symm
    . rfl
   rw[e];show h
 . rename_i hx;rw[pj,Ey];show⟨h,zs,fun a ha b hb e=>hx ?_⟩;show ae (bp.mp ha) fun y hy hr2=>?_;subst hr2;have hb:b=x.r.n:=by simpa using hb
   rw[Bn];show⟨y,hy,by rw[e,hb];simp⟩
theorem J3 (l:List ER) (x:ER):iI l x≠[]:=by
 unfold iI;split
 . rename_i h;intro e;rw[List.map_eq_nil_iff] at e;rw[e] at h;cases h
 . simp
structure bt (ways:List Str) (x:aY):Prop where
 n:x.n<7
 w:x.way∈ways
 one:x.one<70000
 two:x.two<999
abbrev Ba (σ:AS) (x:ER):Prop:=σ x.a=some (.tup [.str x.r.way,.int x.r.one,.int x.r.two])
theorem Io (W:WW) {P L T I R:Addr} {b:Int} {ways:List Str} {Q:ax} (hw:ways≠[]) (hwl:ways.length<=1000):∀(rs:List AV) (Uq:List ER) (σ:AS) (ns:List Int) (c v:Int) (ep:Nat) (x:Option AV),fL σ P L->T≠P->T≠L->σ T=none->σ I=some (.list (ways.map .str))->σ R=some (.rng 0 b 1)->
 ns.length<=1000->(Uq.map (·.r.n)).Nodup->(∀y∈Uq,Ba σ y/\bt ways y.r)->Uq.length+rs.length<=100->(rs=[]->Uq≠[])->
 (∀(UH:AS) (ns':List Int) (c' v':Int) (ep':Nat) (Ur:List ER) (x:Option AV),σ.Sub UH->fL UH P L->UH T=none->ns'.length<=1000->(Ur.map (·.r.n)).Nodup->(∀y∈Ur,Ba UH y/\bt ways y.r)->Ur.length<=Uq.length+rs.length->Ur≠[]->Q .next [some (.ref P),some (.ref I),some (.ref T),x] (pS (UH.set T (.dict ep' (ag Ur))) P L ns' c' v'))->
 bU (r8) r9 (fun σ=>σ R=some (.rng 0 b 1)) (k+2) Q rs [some (.ref P),some (.ref I),some (.ref T),x] (pS (σ.set T (.dict ep (ag Uq))) P L ns c v):=by
 intro rs;induction rs with
 | nil=>intro Uq σ ns c v ep x h h1 h2 hT hI hR hl nd ha hz hn hq;show hq σ ns c v ep Uq x AS.Sub.rfl h hT hl nd ha (Nat.le_refl _) (hn rfl)
 | cons z rs ih=>
  intro Uq σ ns c v ep x h h1 h2 hT hI hR hl nd ha hz hn hq;rw[fF] at hz;have hk:fL (σ.set T (.dict ep (ag Uq))) P L:=h.keep h1 h2;have neI:I≠T:=ez (aR hT hI);have neR:R≠T:=ez (aR hT hR);show M9 W hk ((AS.UK neI).trans hI) hw hwl hl fun s ns1 c1 v1 hs l1=>?_;show td W (m:=70000) hk zd zd l1 fun r2 ns2 c2 v2 hr2 l2=>?_;show td W (m:=999) hk zd zd l2 fun r3 ns3 c3 v3 hr3 l3=>?_;show⟨zy rfl,?_⟩;intro U hU;show ux (fL.set (o:= .tup [.str s,.int r2,.int r3]) hU) fun u1 u2 u3 u4=>?_;show aL (AS.UM u3) fun u5 u6=>?_;rw[u4,AS.UN (ez u5)];have S:=AS.Sub.set (o:= .tup [.str s,.int r2,.int r3]) u6;have hT2:(σ.set U (.tup [.str s,.int r2,.int r3])) T=none:=(AS.UK (ez u5)).trans hT;have hp2:fL (σ.set U (.tup [.str s,.int r2,.int r3])) P L:=h.keep u1 u2;have hk2:fL ((σ.set U (.tup [.str s,.int r2,.int r3])).set T (.dict ep (ag Uq))) P L:=hp2.keep h1 h2;show td W (m:=7) hk2 zd zd l3 fun r ns4 c4 v4 hr l4=>?_;show bM (x:= .i r) (hk2.sub _ _ AS.UJ) zm fun ep'=>?_;rw[fL.setT h1 h2,AS.UL];have ex:iH (ag Uq) (.i (r:Int)) (.ref U)=ag (iI Uq ⟨U,⟨r,s,r2,r3⟩⟩):=(iy Uq ⟨U,⟨r,s,r2,r3⟩⟩).symm;rw[ex];have hR2:(pS ((σ.set U (.tup [.str s,.int r2,.int r3])).set T (.dict ep' (ag (iI Uq ⟨U,⟨r,s,r2,r3⟩⟩)))) P L ns4 c4 v4) R=some (.rng 0 b 1):=(hp2.keep h1 h2).sub _ _ ((AS.UK neR).trans (S _ _ hR));have xl:=rU Uq ⟨U,⟨r,s,r2,r3⟩⟩;show⟨hR2,ih (iI Uq ⟨U,⟨r,s,r2,r3⟩⟩) _ _ _ _ _ _ hp2 h1 h2 hT2 (S _ _ hI) (S _ _ hR) l4 (J2 nd) (fun y hy=>?_) zo (fun _=>J3 _ _) fun UH ns' c' v' ep2 Ur x S2 q1 q2 q3 q4 q5 q6 q7=>hq UH ns' c' v' ep2 Ur x (S.trans S2) q1 q2 q3 q4 q5 (by rw[fF];lia) q7⟩;rcases rT hy with hy | rfl
  . show⟨S _ _ (ha y hy).1,(ha y hy).2⟩
  . show⟨AS.UJ,⟨hr,hs,hr2,hr3⟩⟩
theorem J4 (W:WW) {P L I:Addr} {ns:List Int} {c v:Int} {ways:List Str} (h:fL σ P L) (hI:σ I=some (.list (ways.map .str))) (hw:ways≠[]) (hwl:ways.length<=1000) (hl:ns.length<=1000)
 (hq:∀(T:Addr) (UH:AS) (ns':List Int) (c' v':Int) (rows:List aY),σ T=none->T≠P->T≠L->σ.Sub UH->fL UH P L->ns'.length<=1000->bD UH T rows->(rows.map (·.n)).Nodup->(∀x∈rows,bt ways x)->rows.length<=4->rows≠[]->Q (.ref T) (pS UH P L ns' c' v')):
 aa (k+3) (.ref 1834) [.ref P,.ref I] (pS σ P L ns c v) Q X:=by
 show(af W uh (CC W) rfl zd ?_).call;intro T ep hT;show ux (fL.set (o:= .dict ep []) hT) fun t1 t2 t3 t4=>?_;rw[t4];have hk:fL (σ.set T (.dict ep [])) P L:=h.keep t1 t2;show td W (m:=4) hk zd zd hl fun r ns1 c1 v1 hr l1=>?_;have eb:(1:Int)+(r:Int)=((1+r:Nat):Int):=zo;walk_at "w";rw[eb];show jL fun R hR=>?_;show ux (fL.set (o:= .rng 0 ((1+r:Nat):Int) 1) hR) fun r1 r2 r3 r4=>?_;show aL (AS.UM r3) fun r5 r6=>?_;rw[r4,AS.UN (ez r5)];have S:=AS.Sub.set (o:= .rng 0 ((1+r:Nat):Int) 1) r6;have hp2:fL (σ.set R (.rng 0 ((1+r:Nat):Int) 1)) P L:=h.keep r1 r2;have hT2:(σ.set R (.rng 0 ((1+r:Nat):Int) 1)) T=none:=(AS.UK (ez r5)).trans t3;have hk2:fL ((σ.set R (.rng 0 ((1+r:Nat):Int) 1)).set T (.dict ep [])) P L:=hp2.keep t1 t2;have e:vz ((0:Nat):Int) ((1+r:Nat):Int) 1=(List.range' 0 (1+r-0)).map fun i:Nat=>AV.int (i:Int):=q9;show eQ.of (dM (a:=((0:Nat):Int)) (BR zd zo) (by rw[tP];lia)) (hk2.sub _ _ ((AS.UK r5).trans AS.UJ)) ?_;rw[e];show Io W hw hwl _ [] _ _ _ _ ep none hp2 t1 t2 hT2 (S _ _ hI) AS.UJ l1 zs aF zu (fun e=>by have:=congrArg List.length e;simp at this) fun UH ns' c' v' ep' Ur x S2 q1 q2 q3 q4 q5 q6 q7=>?_;have S3:=AS.Sub.set (o:= .dict ep' (ag Ur)) q2;show hq T _ _ _ _ (Ur.map (·.r)) t3 t1 t2 ((S.trans S2).trans S3) (q1.keep t1 t2) q3 ⟨ep',Ur,AS.UJ,fun y hy=>S3 _ _ (q5 y hy).1,rfl⟩ (by rw[bq];show q4) (fun y hy=>?_) ?_ (fun e=>q7 (List.map_eq_nil_iff.mp e))
 . show ae (bp.mp hy) fun z hz hr2=>?_;subst hr2;show(q5 z hz).2
 . rw[a9];simp at q6;lia
end
set_option tactic.hygienic false
noncomputable section
open MeetsSeq
theorem CX (W:WW) {bs:LU} (h:∀c∈bs,c.toNat<128) (hz:bs.length<=100000) (hq:Q (.bytes bs) σ):aa (k+1) (.ref 1839) [.str (bd bs)] σ Q X:=by
 show aa.forget ?_;show(af W sa (A7 W) rfl zd ?_).call;have ha:(bd bs).cps.all (· <128)=true:=by
  rw[Array.all_eq_true'];intro c hc;show yz (nj h c hc)
 show iO.of (HU ha) trivial (by rw[a9];change((bs.map (·.toNat)).toArray).toList.length<=_;simp;lia) ?_;have e0:((bd bs).cps.toList.map fun c=>AV.str ⟨#[c]⟩)=bs.map fun c=>AV.str ⟨#[c.toNat]⟩:=by
  change(((bs.map (·.toNat)).toArray).toList.map fun c=>AV.str ⟨#[c]⟩)=_;simp
 rw[e0];have loop:∀(rs:LU) (Uq:List Int) (x:Option AV) (R:List AV->AS->Prop),R ((Uq++rs.map fun c=>(c.toNat:Int)).map .int) σ->bN (lu) none lA (fun _=>True) k R (rs.map fun c=> .str ⟨#[c.toNat]⟩) (Uq.map .int) [x] σ:=by
  intro rs;induction rs with
  | nil=>intro Uq x R hR;rw[EA,Bo] at hR;show hR
  | cons c rs ih=>
   intro Uq x R hR;rw[dI];left;show MN ?_;show⟨trivial,?_⟩;have e:Uq.map AV.int++[.int c.toNat]=(Uq++[(c.toNat:Int)]).map .int:=zs;change bN _ _ _ _ _ _ _ (Uq.map AV.int++[.int c.toNat]) _ _;rw[e];show ih _ _ _ (by simpa using hR)
 show loop bs [] none _ fun p hp=>?_;have S:=AS.Sub.set (o:= .list ((([]:List Int)++bs.map fun c=>(c.toNat:Int)).map .int)) hp;show vK AS.UJ (fun n hn=>?_) zm ?_
 . rw[Bg] at hn;show ae (bp.mp hn) fun c hc hr2=>?_;subst hr2;have:=c.toNat_lt;lia
 . have e1:((([]:List Int)++bs.map fun c=>(c.toNat:Int)).map fun n=>n.toNat.toUInt8)=bs:=by
    rw[Bg,bq];have hid:((fun n:Int=>n.toNat.toUInt8)∘fun c:UInt8=>(c.toNat:Int))=id:=funext fun c=>by
     apply UInt8.toNat.inj;change(c.toNat:Int).toNat%256=c.toNat;have:=c.toNat_lt;lia
    rw[hid,List.map_id]
   rw[e1];show⟨σ,S,hq⟩
noncomputable def te (n:Nat) (ds:LU):LU:=List.replicate (n-ds.length) 48++ds
noncomputable def cf (x:aY):gY:=⟨az x.n,te 10 (az x.one),te 5 (az x.two),x.way=="used"⟩
theorem Ej (k:Nat) (ds:LU):ay 0 (List.replicate k 48++ds)=ay 0 ds:=by
 induction k with
 | zero=>rfl
 | succ k ih=>rw[List.replicate_succ];show ih
theorem wW {n m:Nat}:ay 0 (te n (az m))=m:=by unfold te;rw[Ej,bc]
theorem CY {n:Nat} {ds:LU} (h:ds.length<=n):(te n ds).length=n:=by unfold te;simp;lia
theorem Ip {n m:Nat}:∀c∈te n (az m),gw c=true:=by
 intro c hc;unfold te at hc;rcases eL.mp hc with hc | hc
 . rw[(List.mem_replicate.mp hc).2];decide
 . show dp m c hc
theorem Iq {x:aY} (h:x.way="used"\/x.way="free"):(cf x).row=x:=by
 obtain⟨n,way,one,two⟩:=x;change(⟨ay 0 (az n),B5 (way=="used"),ay 0 (te 10 (az one)),ay 0 (te 5 (az two))⟩:aY)=_;rw[bc,wW,wW];rcases h with rfl | rfl<;>rfl
theorem nq {ways:List Str} {x:aY} (h:bt ways x):(cf x).good:=
 ⟨dp _,AX _,aW zd (tq h.n zd),Ip,CY (aW zd (tq h.one zd)),Ip,CY (aW zd (tq h.two zd)),
  by change ay 0 (te 5 (az x.two))<=_;rw[wW];have:=h.two;lia,by change ay 0 (az x.n)<=_;rw[bc];have:=h.n;lia⟩
theorem zg {α β:Type} (f:α->β):∀{ms q:List β},ms.Perm q->∀{l:List α},q=l.map f->∃Ut:List α,Ut.Perm l/\ms=Ut.map f:=by
 intro ms q p;induction p with
 | nil=>intro l e;show⟨[],by rw[List.map_eq_nil_iff.mp e.symm],rfl⟩
 | cons x p ih=>
  intro l e;cases l with
  | nil=>cases e
  | cons y l=>
   show aL (List.cons.inj e) fun e1 e2=>?_;show ae (ih e2) fun s h1 h2=>?_;show⟨y::s,h1.cons y,by rw[dI,<-h2,e1]⟩
 | swap x y l0=>
  intro l e;cases l with
  | nil=>cases e
  | cons a l=>
   cases l with
   | nil=>cases e
   | cons b l=>
    show aL (List.cons.inj e) fun e1 e2=>?_;show aL (List.cons.inj e2) fun e3 e4=>?_;show⟨b::a::l,List.Perm.swap a b l,by rw[dI,dI,<-e1,<-e3,<-e4]⟩
 | trans p1 p2 ih1 ih2=>
  intro l e;show ae (ih2 e) fun s2 h1 h2=>?_;show ae (ih1 h2) fun s1 h3 h4=>?_;show⟨s1,h3.trans h1,h4⟩
theorem Ud {a b:LU} {Q:aG} (hz:a.length+b.length<=1000000) (hq:Q (.str (bd (a++b))) σ):(bd a).length+(bd b).length<=sizeLine/\Q (.str (bd a++bd b)) σ:=
 ⟨by rw[fx,fx,mU];lia,by rw[qc];show hq⟩
theorem zh (n:Nat):HW n=bd (List.replicate n 48):=by
 change(⟨_⟩:Str)=⟨_⟩;rw[List.map_replicate];rfl
theorem wX {x:LU} (hz:x.length<=1000000) (hq:Q (.int x.length) σ):aa k (.fn "len") [.str (bd x)] σ Q X:=by
 show⟨fun A Up g s fv vv hA hH R O rs hf hv=>?_⟩;rw[dL hf];show ae (xn hv) fun a hr1 ha=>?_;rw[hr1];show aw (db ha) fun t hr1=>?_;rw[hr1];show P.len_str (by rw[fx];lia) ⟨σ,rs.tok,?_⟩;change Q (.int (bd x).length) σ;rw[fx];show hq
noncomputable def kK:LU:=y9++[10]
theorem Na:(Str.ofString "xref\n")=bd kK:=zk
theorem QN:(Str.ofString " 1\n")=bd [32,49,10]:=zk
theorem QO:(Str.ofString " ")=bd [32]:=zk
theorem Ue:(Str.ofString " n \n")=bd [32,110,32,10]:=zk
theorem Uf:(Str.ofString " f \n")=bd [32,102,32,10]:=zk
theorem SB:(Str.ofString "trailer << ")=bd (fq++[32,60,60,32]):=zk
theorem QP:(Str.ofString ">>")=bd [62,62]:=zk
theorem iF {a b:LU} {n m:Nat} {Q:aG} (ha:a.length<=n) (hb:b.length<=m) (hn:n+m<=1000000) (hq:(a++b).length<=n+m->Q (.str (bd (a++b))) σ):(bd a).length+(bd b).length<=sizeLine/\Q (.str (bd a++bd b)) σ:=
 Ud (Nat.le_trans (Nat.add_le_add ha hb) hn) (hq (by rw[j7];show Nat.add_le_add ha hb))
theorem Ir (n d:Nat):(List.replicate (n-d) (48:UInt8)).length<=n:=by rw[List.length_replicate];show Nat.sub_le _ _
theorem Iu (W:WW) {T:Addr} {kb:AV} {ep:Nat} {all:List ER} {Q:ax} {I:Addr} {srt0:List ER} (nd:(all.map (·.r.n)).Nodup) (hT:σ T=some (.dict ep (ag all))) (ht:∀x∈all,Ba σ x/\bt ["used","free"] x.r) (hI:σ I=some (.list ((srt0.map fun y=>(y.r.n:Int)).map .int))):
 ∀(rs:List ER) (tx:LU) (x3 x4 x5 x6:Option AV),(∀x∈rs,x∈all)->tx.length+60*rs.length<=10000->
 (∀(x3 x4 x5 x6:Option AV),Q .next [some (.ref T),some kb,some (.str (bd (tx++dk (rs.map fun x=>cf x.r)))),x3,x4,x5,x6] σ)->
 bU (iD) iE (fun σ=>σ I=some (.list ((srt0.map fun y=>(y.r.n:Int)).map .int))) (k+1) Q ((rs.map fun y=>(y.r.n:Int)).map .int) [some (.ref T),some kb,some (.str (bd tx)),x3,x4,x5,x6] σ:=by
 intro rs;induction rs with
 | nil=>intro tx x3 x4 x5 x6 hm hz hq;have:=hq x3 x4 x5 x6;rw[EA,show dk []=[] from rfl,Bo] at this;show this
 | cons y rs ih=>
  intro tx x3 x4 x5 x6 hm hz hq;rw[fF] at hz;have hy:=hm y bJ;show aL (ht y hy) fun y1 y2=>?_;rw[dI,dI];show a8 (x:= .i y.r.n) hT (cR nd hy) ?_;show aD y1 ⟨rfl,?_⟩;have ln:(az y.r.n).length<=1:=aW zd (tq y2.n zd);have l1:(az y.r.one).length<=10:=aW zd (tq y2.one zd);have l2:(az y.r.two).length<=5:=aW zd (tq y2.two zd);show mJ y.r.n (tq y2.n zd) ?_;have ha:tx.length<=10000:=zo;show iF ha ln zl fun ha=>?_;rw[QN];show iF ha (Nat.le_refl 3) zl fun ha=>?_;show mJ y.r.one (tq y2.one zd) ?_;show wX zo ?_;show ze zo zo ?_;rw[zh,show((10:Int)-(az y.r.one).length).toNat=10-(az y.r.one).length by lia];show iF ha (Ir _ _) zl fun ha=>?_;show mJ y.r.one (tq y2.one zd) ?_;show iF ha l1 zl fun ha=>?_;rw[QO];show iF ha (Nat.le_refl 1) zl fun ha=>?_;show mJ y.r.two (tq y2.two zd) ?_;show wX zo ?_;show ze zo zo ?_;rw[zh,show((5:Int)-(az y.r.two).length).toNat=5-(az y.r.two).length by lia];show iF ha (Ir _ _) zl fun ha=>?_;show mJ y.r.two (tq y2.two zd) ?_;show iF ha l2 zl fun ha=>?_;have tl:(cf y.r).text.length<=40:=by
   rw[gY.len _ (nq y2)];change(az y.r.n).length+23<=40;lia
  have fin:∀tx':LU,tx'=tx++(cf y.r).text->∀(x3 x4 x5 x6:Option AV),bU (iD) iE (fun σ=>σ I=some (.list ((srt0.map fun y=>(y.r.n:Int)).map .int))) (k+1) Q ((rs.map fun y=>(y.r.n:Int)).map .int) [some (.ref T),some kb,some (.str (bd tx')),x3,x4,x5,x6] σ:=fun tx' e x3 x4 x5 x6=>by
   subst e;show ih _ _ _ _ _ (fun z hz=>hm z (du _ hz)) (by rw[j7];lia) fun x3 x4 x5 x6=>?_;have:=hq x3 x4 x5 x6;rw[dI,show dk (cf y.r::rs.map fun x=>cf x.r)=(cf y.r).text++dk (rs.map fun x=>cf x.r) from rfl,<-u9] at this;show this
  show Br.mk (fun hu=>?_) (fun hu=>?_)
  . rw[Ue];show iF ha (Nat.le_refl 4) zl fun ha=>?_;show⟨hI,fin _ ?_ _ _ _ _⟩;have hb:(cf y.r).b=true:=hu;change _=tx++((cf y.r).nd++([32]++([49]++([10]++((cf y.r).ds++([32]++((cf y.r).es++([32]++([if (cf y.r).b then 110 else 102]++[32,10])))))))));rw[hb];simp [cf,te]
  . rw[Uf];show iF ha (Nat.le_refl 4) zl fun ha=>?_;show⟨hI,fin _ ?_ _ _ _ _⟩;have hb:(cf y.r).b=false:=hu;change _=tx++((cf y.r).nd++([32]++([49]++([10]++((cf y.r).ds++([32]++((cf y.r).es++([32]++([if (cf y.r).b then 110 else 102]++[32,10])))))))));rw[hb];simp [cf,te]
noncomputable def bo (rs:List aY) (kb:LU):LU:=y9++([10]++(dk (rs.map cf)++(fq++([32]++([60,60]++([32]++(kb++[62,62])))))))
theorem zi {rs:List aY} {ways:List Str} (h:∀x∈rs,bt ways x):(dk (rs.map cf)).length<=40*rs.length:=by
 induction rs with
 | nil=>show Nat.le_refl _
 | cons x rs ih=>
  have:=ih fun y hy=>h y (du _ hy);have g:=h x bJ;have ln:(az x.n).length<=1:=aW zd (tq g.n zd);change((cf x).text++dk (rs.map cf)).length<=_;rw[j7,gY.len _ (nq g),fF];change(az x.n).length+23+_<=_;lia
theorem cM {l:LU} (h:(l.all fun c=>decide (c.toNat<128))=true):∀c∈l,c.toNat<128:=fun c hc=>GH (Di.mp h c hc)
theorem Bb {l:LU} (h:∀c∈l,gw c=true):∀c∈l,c.toNat<128:=fun c hc=>qd (h c hc)
theorem Gh {rs:List aY} {ways:List Str} (h:∀x∈rs,bt ways x):∀c∈dk (rs.map cf),c.toNat<128:=by
 induction rs with
 | nil=>nofun
 | cons x rs ih=>
  intro c hc;have g:=nq (h x bJ);rcases eL.mp (show c∈(cf x).text++dk (rs.map cf) from hc) with hc | hc
  . rcases eL.mp hc with hc | hc
    . show Bb g.n1 c hc
    rcases eL.mp hc with hc | hc
    . show cM rfl c hc
    rcases eL.mp hc with hc | hc
    . show cM rfl c hc
    rcases eL.mp hc with hc | hc
    . show cM rfl c hc
    rcases eL.mp hc with hc | hc
    . show Bb g.d1 c hc
    rcases eL.mp hc with hc | hc
    . show cM rfl c hc
    rcases eL.mp hc with hc | hc
    . show Bb g.e1 c hc
    rcases eL.mp hc with hc | hc
    . show cM rfl c hc
    . show cM (l:=[if (cf x).b then 110 else 102]++[32,10]) (by cases (cf x).b<;>rfl) c hc
  . show ih (fun y hy=>h y (du _ hy)) c hc
theorem yt (W:WW) {T:Addr} {rows:List aY} {kb:LU} (hT:bD σ T rows) (nd:(rows.map (·.n)).Nodup) (hr:∀x∈rows,bt ["used","free"] x) (hz:rows.length<=10) (hk:∀c∈kb,c.toNat<128) (hkl:kb.length<=1000)
 (hq:∀Ut:List aY,Ut.Perm rows->Q (.bytes (bo Ut kb)) σ):aa (k+2) (.ref 1846) [.ref T,.str (bd kb)] σ Q X:=by
 show aH hT fun ep all h1 h2 hr4=>?_;subst hr4;rw[bq] at nd;rw[a9] at hz;show aa.forget ?_;show(af W pd (yr W) rfl zd ?_).call;show qB h1 zm fun Z hZ=>?_;have S1:=AS.Sub.set (o:= .list ((ag all).map fun p:AK×AV=>p.1.av)) hZ;have ek:((ag all).map fun p:AK×AV=>p.1.av)=(all.map fun y=>(y.r.n:Int)).map .int:=by rw[bq,bq];rfl
 rw[ek] at S1⊢;show lV AS.UJ zm fun I ms hI p _=>?_;show ae (zg (fun y:ER=>(y.r.n:Int)) p rfl) fun Ut p2 hr2=>?_;subst hr2;have S2:=AS.Sub.set (o:= .list ((Ut.map fun y=>(y.r.n:Int)).map .int)) hI;have S:=S1.trans S2;have lz:Ut.length<=10:=by rw[p2.length_eq];show hz
 have hm:∀x∈Ut,x∈all:=fun x hx=>p2.subset hx;have hok:∀x∈Ut.map (·.r),bt ["used","free"] x:=fun x hx=>by
  show ae (bp.mp hx) fun y hy hr2=>?_;subst hr2;show hr _ (bp.mpr ⟨y,hm y hy,rfl⟩)
 show eQ.of cw AS.UJ ?_;rw[Na];show Iu W (srt0:=Ut) nd (S _ _ h1) (fun x hx=>⟨S _ _ (h2 x hx),hr _ (bp.mpr ⟨x,hx,rfl⟩)⟩) AS.UJ Ut kK none none none none hm (by simp [kK];lia) fun x3 x4 x5 x6=>?_;have em:(Ut.map fun x=>cf x.r)=(Ut.map (·.r)).map cf:=by rw[bq];rfl
 have rl:=zi hok;rw[em,a9] at*;have ha:(kK++dk ((Ut.map (·.r)).map cf)).length<=9000:=by
  rw[j7];have:kK.length=5:=rfl;lia
 left;rw[SB];show iF ha (m:=11) (Nat.le_refl 11) zl fun ha=>?_;show iF ha (m:=1000) zo zl fun ha=>?_;rw[QP];show iF ha (m:=2) (Nat.le_refl 2) zl fun ha=>?_;have et:kK++dk ((Ut.map (·.r)).map cf)++(fq++[32,60,60,32])++kb++[62,62]=bo (Ut.map (·.r)) kb:=by unfold bo kK;simp
 rw[et];show CX W (fun c hc=>?_) ?_ ?_
 . unfold bo at hc;rcases eL.mp hc with hc | hc
   . show cM rfl c hc
   rcases eL.mp hc with hc | hc
   . show cM rfl c hc
   rcases eL.mp hc with hc | hc
   . show Gh hok c hc
   rcases eL.mp hc with hc | hc
   . show cM rfl c hc
   rcases eL.mp hc with hc | hc
   . show cM rfl c hc
   rcases eL.mp hc with hc | hc
   . show cM rfl c hc
   rcases eL.mp hc with hc | hc
   . show cM rfl c hc
   rcases eL.mp hc with hc | hc
   . show hk c hc
   . show cM rfl c hc
 . unfold bo;simp [-List.map_map];lia
 . show⟨σ,S,hq _ (p2.map _)⟩
noncomputable def th (s:Str):Nat:=if s="free" then 0 else if s="used" then 1 else 2
noncomputable def bY (x:aY):g6:=⟨az x.n,(th x.way).toUInt8,[0,(x.one/65536).toUInt8,(x.one/256%256).toUInt8,(x.one%256).toUInt8,(x.two/256).toUInt8,(x.two%256).toUInt8]⟩
noncomputable def lB:List Str:=["free","used","packed"]
noncomputable def c9:List aY->LU
 | []=>[]
 | x::l=>az x.n++([32,49,32]++c9 l)
theorem SC:(Str.ofString " 1 ")=bd [32,49,32]:=zk
theorem L8:(Str.ofString "")=bd []:=zk
noncomputable def u8 (l:LU):List Int:=l.map fun c=>(c.toNat:Int)
theorem bt.way3 {ways:List Str} {x:aY} (h:bt ways x) (hw:∀s∈ways,s∈lB):x.way="free"\/x.way="used"\/x.way="packed":=by
 have:=hw _ h.w;simpa [lB] using this
theorem Gi {a b:LU}:u8 (a++b)=u8 a++u8 b:=pj
theorem Gj {n:Nat} (h:n<256):(n.toUInt8.toNat:Int)=n:=by
 change((n%256:Nat):Int)=n;lia
theorem J5 (s:Str):th s<256:=by
 unfold th;split
 . decide
 split<;>decide
theorem Gk {x:aY} {ways:List Str} (h:bt ways x):u8 ((bY x).c::(bY x).r)=[((th x.way:Nat):Int),0,((x.one:Int).fdiv 65536),(((x.one:Int).fdiv 256).fmod 256),((x.one:Int).fmod 256),((x.two:Int).fdiv 256),((x.two:Int).fmod 256)]:=by
 have h1:=h.one;have h2:=h.two;have hw:=J5 x.way;change[((th x.way).toUInt8.toNat:Int),0,((x.one/65536).toUInt8.toNat:Int),((x.one/256%256).toUInt8.toNat:Int),((x.one%256).toUInt8.toNat:Int),((x.two/256).toUInt8.toNat:Int),((x.two%256).toUInt8.toNat:Int)]=_;rw[Gj hw,Gj (n:=x.one/65536) zo,Gj (n:=x.one/256%256) zo,Gj (n:=x.one%256) zo,Gj (n:=x.two/256) zo,Gj (n:=x.two%256) zo];have d:∀a b:Nat,(a:Int).fdiv b=((a/b:Nat):Int):=fun a b=>by rw[Int.fdiv_eq_ediv_of_nonneg _ zo];rfl
 have m:∀a b:Nat,(a:Int).fmod b=((a%b:Nat):Int):=fun a b=>by rw[Int.fmod_eq_emod_of_nonneg _ zo];rfl
 have e1:=d x.one 65536;have e2:=d x.one 256;have e3:=m (x.one/256) 256;have e4:=m x.one 256;have e5:=d x.two 256;have e6:=m x.two 256;rw[show(65536:Int)=((65536:Nat):Int) from rfl,show(256:Int)=((256:Nat):Int) from rfl,e1,e2,e3,e4,e5,e6]
theorem Iv (W:WW) {T:Addr} {kb:AV} {ep:Nat} {all:List ER} {ways:List Str} {Q:ax} {I:Addr} {srt0:List ER} {σ0:AS} (nd:(all.map (·.r.n)).Nodup) (hT:σ0 T=some (.dict ep (ag all))) (ht:∀x∈all,Ba σ0 x/\bt ways x.r) (hw:∀s∈ways,s∈lB) (hI:σ0 I=some (.list ((srt0.map fun y=>(y.r.n:Int)).map .int))):
 ∀(rs done:List ER) (pl:LU) (R:Addr) (σ:AS) (x4 x5 x6 x7 x8:Option AV),σ0.Sub σ->σ R=some (.list ((u8 (bj (done.map fun x=>bY x.r))).map .int))->(∀x∈rs,x∈all)->done.length+rs.length<=100->(∀x∈done,x∈all)->pl.length<=10*done.length->
 (∀(R:Addr) (σ:AS) (x4 x5 x6 x7 x8:Option AV),σ0.Sub σ->σ R=some (.list ((u8 (bj ((done++rs).map fun x=>bY x.r))).map .int))->Q .next [some (.ref T),some kb,some (.ref R),some (.str (bd (pl++c9 (rs.map (·.r))))),x4,x5,x6,x7,x8] σ)->
 bU (pe) pf (fun σ=>σ I=some (.list ((srt0.map fun y=>(y.r.n:Int)).map .int))) (k+1) Q ((rs.map fun y=>(y.r.n:Int)).map .int) [some (.ref T),some kb,some (.ref R),some (.str (bd pl)),x4,x5,x6,x7,x8] σ:=by
 intro rs;induction rs with
 | nil=>intro done pl R σ x4 x5 x6 x7 x8 S hR hm hz hd hp hq;have:=hq R σ x4 x5 x6 x7 x8 S (by rw[Bo];show hR);rw[EA,show c9 []=[] from rfl,Bo] at this;show this
 | cons y rs ih=>
  intro done pl R σ x4 x5 x6 x7 x8 S hR hm hz hd hp hq;rw[fF] at hz;have hy:=hm y bJ;show aL (ht y hy) fun y1 y2=>?_;have yw:=y2.way3 hw;have gl:∀x∈done.map fun x=>bY x.r,(x.c::x.r).length=7:=fun x hx=>by obtain⟨z,-,rfl⟩:=bp.mp hx;rfl
  have sl:∀l:List ER,(bj (l.map fun x=>bY x.r)).length=7*l.length:=fun l=>by
   induction l with
   | nil=>rfl
   | cons a l ih=>change(bj (l.map fun x=>bY x.r)).length+7=_;rw[ih,fF];lia
  rw[dI,dI];show a8 (x:= .i y.r.n) (S _ _ hT) (cR nd hy) ?_;show aD (S _ _ y1) ⟨rfl,?_⟩;show⟨zl,?_⟩;intro V hV;have S1:=AS.Sub.set (o:= .list [.str "free",.str "used",.str "packed"]) hV;show D8 AS.UJ ?_;have ix:∃j,(["free","used","packed"]:List Str)[j]?=some y.r.way/\(∀i,i<j->(["free","used","packed"]:List Str)[i]?≠some y.r.way)/\th y.r.way=j:=by
   rcases yw with e | e | e<;>rw[e]
   . show⟨0,rfl,nofun,zd⟩
   . show⟨1,rfl,zd,zd⟩
   . show⟨2,rfl,zd,zd⟩
  show j8 ix fun j j1 j2 j3=>?_;show HV (ss:=["free","used","packed"]) AS.UJ zd j1 j2 ?_;rw[<-j3];show⟨zd,ib (m:=65536) zd,?_⟩;show⟨zd,ib (m:=256) zd,?_⟩;show⟨zd,?_⟩;show⟨zd,?_⟩;show⟨zd,ib (m:=256) zd,?_⟩;show⟨zd,?_⟩;show⟨zl,?_⟩;intro Z hZ;have S2:=S1.trans (AS.Sub.set (o:= .list [.int (th y.r.way),.int 0,.int ((y.r.one:Int).fdiv 65536),.int (((y.r.one:Int).fdiv 256).fmod 256),.int ((y.r.one:Int).fmod 256),.int ((y.r.two:Int).fdiv 256),.int ((y.r.two:Int).fmod 256)]) hZ);show yE (S2 _ _ hR) AS.UJ ?_ fun R2 hR2=>?_
  . rw[a9,show(u8 (bj (done.map fun x=>bY x.r))).length=7*done.length by unfold u8;rw[a9,sl]];change _+7<=_;lia
  have S3:=S2.trans (AS.Sub.set (o:= .list ((u8 (bj (done.map fun x=>bY x.r))).map .int++[.int (th y.r.way),.int 0,.int ((y.r.one:Int).fdiv 65536),.int (((y.r.one:Int).fdiv 256).fmod 256),.int ((y.r.one:Int).fmod 256),.int ((y.r.two:Int).fdiv 256),.int ((y.r.two:Int).fmod 256)])) hR2);have eR:(u8 (bj (done.map fun x=>bY x.r))).map AV.int++[.int (th y.r.way),.int 0,.int ((y.r.one:Int).fdiv 65536),.int (((y.r.one:Int).fdiv 256).fmod 256),.int ((y.r.one:Int).fmod 256),.int ((y.r.two:Int).fdiv 256),.int ((y.r.two:Int).fmod 256)]=(u8 (bj ((done++[y]).map fun x=>bY x.r))).map .int:=by
   rw[pj,ky,Gi,pj];have:=congrArg (List.map AV.int) (Gk y2);change _=_++(u8 ((bY y.r).c::(bY y.r).r++[])).map AV.int;rw[Bo,this];rfl
  rw[eR] at S3⊢;have ln:(az y.r.n).length<=1:=aW zd (tq y2.n zd);show mJ y.r.n (tq y2.n zd) ?_;show⟨by rw[fx,fx,mU];first | lia | (simp;lia),?_⟩;rw[qc];rw[SC];show⟨by rw[fx,fx,mU];first | lia | (simp;lia),?_⟩;rw[qc];show⟨(S.trans S3) _ _ hI,?_⟩;show ih (done++[y]) _ R2 _ _ _ _ _ _ (S.trans S3) AS.UJ (fun x hx=>hm x (du _ hx)) (by rw[j7,LY];lia) (fun x hx=>?_) zu fun R σ x4 x5 x6 x7 x8 T1 T2=>?_
  . rcases eL.mp hx with hx | hx
    . show hd x hx
    . rw[dK.mp hx];show hy
  . have:=hq R σ x4 x5 x6 x7 x8 T1 (by rw[u9] at T2;show T2);rw[dI,show c9 (y.r::rs.map (·.r))=az y.r.n++([32,49,32]++c9 (rs.map (·.r))) from rfl,<-u9,<-u9] at this;show this
noncomputable def Nb:LU:=[57,48,32,48,32,111,98,106,32,60,60,32,47,84,121,112,101,32,47,88,82,101,102,32,47,87,32,91,32,49,32,52,32,50,32,93,32,47,73,110,100,101,120,32,91,32]
theorem Q1:Nb.length=46:=rfl
noncomputable def Nv:LU:=[93,32]
theorem Q2:Nv.length=2:=rfl
noncomputable def Nw:LU:=[47,76,101,110,103,116,104,32]
theorem Q3:Nw.length=8:=rfl
noncomputable def Q4:LU:=[32,62,62,10,115,116,114,101,97,109,10]
theorem Q5:Q4.length=11:=rfl
noncomputable def SD:LU:=[10,101,110,100,115,116,114,101,97,109,32,101,110,100,111,98,106]
theorem Ug:SD.length=17:=rfl
theorem SE:(Str.ofString "90 0 obj << /Type /XRef /W [ 1 4 2 ] /Index [ ")=bd Nb:=zk
theorem SG:(Str.ofString "] ")=bd Nv:=zk
theorem SH:(Str.ofString "/Length ")=bd Nw:=zk
theorem SI:(Str.ofString " >>\nstream\n")=bd Q4:=zk
noncomputable def a6 (rs:List aY) (kb:LU):LU:=Nb++(c9 rs++(Nv++(kb++(Nw++(az (7*rs.length)++(Q4++(bj (rs.map bY)++SD)))))))
theorem mQ {ways:List Str}:∀{rs:List aY},(∀x∈rs,bt ways x)->(c9 rs).length<=10*rs.length
 | [],_=>Nat.le_refl _
 | x::rs,h=>by
  have:=mQ fun y hy=>h y (du _ hy);have ln:(az x.n).length<=1:=aW zd (tq (h x bJ).n zd);change(az x.n++([32,49,32]++c9 rs)).length<=_;simp;lia
theorem ut:∀{rs:List aY},∀c∈c9 rs,c.toNat<128
 | []=>aF
 | x::rs=>fun c hc=>by
  rcases eL.mp (show c∈az x.n++([32,49,32]++c9 rs) from hc) with hc | hc
  . show qd (dp _ c hc)
  rcases eL.mp hc with hc | hc
  . show cM rfl c hc
  . show ut c hc
theorem nu:∀rs:List aY,(bj (rs.map bY)).length=7*rs.length
 | []=>rfl
 | x::rs=>by change(bj (rs.map bY)).length+7=_;rw[nu rs,fF];lia
set_option maxHeartbeats 2000000 in
theorem sg (W:WW) {T:Addr} {rows:List aY} {ways:List Str} {kb:LU} (hT:bD σ T rows) (nd:(rows.map (·.n)).Nodup) (hr:∀x∈rows,bt ways x) (hw:∀s∈ways,s∈lB) (hz:rows.length<=10) (hk:∀c∈kb,c.toNat<128) (hkl:kb.length<=1000)
 (hq:∀Ut:List aY,Ut.Perm rows->Q (.bytes (a6 Ut kb)) σ):aa (k+2) (.ref 1853) [.ref T,.str (bd kb)] σ Q X:=by
 show aH hT fun ep all h1 h2 hr4=>?_;subst hr4;rw[bq] at nd;rw[a9] at hz;show aa.forget ?_;show(af W sd (A8 W) rfl zd ?_).call;show⟨zl,?_⟩;intro R0 hR0;have S00:=AS.Sub.set (o:= .list []) hR0;show⟨zl,?_⟩;intro U hU;have S01:=AS.Sub.set (o:= .tup [.ref R0,.str ""]) hU;have S0:=S00.trans S01;show aD AS.UJ ⟨rfl,?_⟩;show qB (S0 _ _ h1) zm fun Z hZ=>?_;have S1:=S0.trans (AS.Sub.set (o:= .list ((ag all).map fun p:AK×AV=>p.1.av)) hZ);have hR1:=AS.Sub.set (o:= .list ((ag all).map fun p:AK×AV=>p.1.av)) hZ _ _ (S01 _ _ (AS.UJ (σ:=σ) (o:= .list [])));have ek:((ag all).map fun p:AK×AV=>p.1.av)=(all.map fun y=>(y.r.n:Int)).map .int:=by rw[bq,bq];rfl
 rw[ek] at S1 hR1⊢;show lV AS.UJ zm fun I ms hI p _=>?_;show ae (zg (fun y:ER=>(y.r.n:Int)) p rfl) fun Ut p2 hr2=>?_;subst hr2;have S2:=AS.Sub.set (o:= .list ((Ut.map fun y=>(y.r.n:Int)).map .int)) hI;have S:=S1.trans S2;have lz:Ut.length<=10:=by rw[p2.length_eq];show hz
 have hm:∀x∈Ut,x∈all:=fun x hx=>p2.subset hx;have hok:∀x∈Ut.map (·.r),bt ways x:=fun x hx=>by
  show ae (bp.mp hx) fun y hy hr2=>?_;subst hr2;show hr _ (bp.mpr ⟨y,hm y hy,rfl⟩)
 show eQ.of cw AS.UJ ?_;rw[L8];show Iv W (srt0:=Ut) nd (S _ _ h1) (fun x hx=>⟨S _ _ (h2 x hx),hr _ (bp.mpr ⟨x,hx,rfl⟩)⟩) hw AS.UJ Ut [] [] R0 _ none none none none none AS.Sub.rfl (S2 _ _ hR1) hm zu aF zs fun R σ2 x4 x5 x6 x7 x8 T1 T2=>?_;have em:(Ut.map fun x=>bY x.r)=(Ut.map (·.r)).map bY:=by rw[bq];rfl
 have pl:=mQ hok;have sb:=nu (Ut.map (·.r));rw[Bg,em] at T2;rw[Bg];rw[a9] at pl sb;have dl:(az (7*Ut.length)).length<=2:=aW zd (by change _<100;lia);left;rw[SE];show iF (Nat.le_of_eq Q1) (m:=100) zo zl fun ha=>?_;rw[SG];show iF ha (Nat.le_of_eq Q2) zl fun ha=>?_;show iF ha (m:=1000) zo zl fun ha=>?_;rw[SH];show iF ha (Nat.le_of_eq Q3) zl fun ha=>?_;show bE T2 (by unfold u8;rw[a9,a9];lia) ?_;unfold u8 at T2⊢;rw[a9,a9,sb];show mJ (7*Ut.length) (Df (show 7*Ut.length<=70 by lia) zd) ?_;show iF ha dl zl fun ha=>?_;rw[SI];show iF ha (Nat.le_of_eq Q5) zl fun ha=>?_;show CX W (fun c hc=>?_) (Nat.le_trans ha zl) ?_
 . simp only [u9] at hc;rcases eL.mp hc with hc | hc
   . show cM rfl c hc
   rcases eL.mp hc with hc | hc
   . show ut c hc
   rcases eL.mp hc with hc | hc
   . show cM rfl c hc
   rcases eL.mp hc with hc | hc
   . show hk c hc
   rcases eL.mp hc with hc | hc
   . show cM rfl c hc
   rcases eL.mp hc with hc | hc
   . show qd (dp _ c hc)
   . show cM rfl c hc
 show vK T2 (fun n hn=>?_) zm ?_
 . show ae (bp.mp hn) fun c hc hr2=>?_;subst hr2;have:=c.toNat_lt;lia
 have e1:(((bj ((Ut.map (·.r)).map bY)).map fun c=>(c.toNat:Int)).map fun n=>n.toNat.toUInt8)=bj ((Ut.map (·.r)).map bY):=by
  rw[bq];have hid:((fun n:Int=>n.toNat.toUInt8)∘fun c:UInt8=>(c.toNat:Int))=id:=funext fun c=>by
   apply UInt8.toNat.inj;change(c.toNat:Int).toNat%256=c.toNat;have:=c.toNat_lt;lia
  rw[hid,List.map_id]
 rw[e1];show⟨by simp [Q1,Q2,Q3,Q5,-List.map_map];lia,?_⟩;show⟨by simp [Q1,Q2,Q3,Q5,-List.map_map];lia,?_⟩;show⟨σ,S.trans T1,?_⟩;have:=hq _ (p2.map _);unfold a6 at this;simp only [u9];rw[a9] at this;show this
noncomputable def be:LU:=[83,105,122,101]
theorem vg:bd be="Size":=zk
noncomputable def bk:LU:=[80,114,101,118]
theorem jg:bd bk="Prev":=zk
noncomputable def dH:LU:=[77,97,114,107]
theorem si:bd dH="Mark":=zk
noncomputable def iJ:LU:=[88,82,101,102,83,116,109]
theorem wY:bd iJ="XRefStm":=zk
noncomputable def CZ:LU:=[84,121,112,101]
theorem E9:bd CZ="Type":=zk
noncomputable def bW:LU:=[87]
theorem QQ:bd bW="W":=zk
noncomputable def ti:LU:=[73,110,100,101,120]
theorem C0:bd ti="Index":=zk
noncomputable def ec:LU:=[76,101,110,103,116,104]
theorem zj:bd ec="Length":=zk
noncomputable def C8:LU:=[88,82,101,102]
theorem J6:bd C8="XRef":=zk
abbrev Ks:=List (LU×Nat)
noncomputable def dT (ks:Ks):List cU:=ks.map fun y=>(y.1,.int (az y.2))
noncomputable def ed:Ks->LU
 | []=>[]
 | y::l=>47::(y.1++(32::(az y.2++(32::ed l))))
noncomputable def ey (ks:Ks):List (Str×Nat):=ks.map fun y=>(bd y.1,y.2)
theorem mR (ks:Ks):cP (dT ks)=Gd (ey ks):=by
 delta dT ey cP Gd
 rw[bq,bq];rfl
theorem fY:∀a b:Ks,ed (a++b)=ed a++ed b
 | [],_=>rfl
 | y::a,b=>by
  change 47::(y.1++(32::(az y.2++(32::ed (a++b)))))=47::(y.1++(32::(az y.2++(32::ed a))))++ed b;rw[fY a b];simp
theorem sj:∀ks:Ks,aC (dh (dT ks)::cB (dT ks))=32::(ed ks++[62,62])
 | []=>rfl
 | y::l=>by
  change 32::((47::y.1)++(32::(az y.2++aC (dh (dT l)::cB (dT l)))))=_;rw[sj l];change _=32::(47::(y.1++(32::(az y.2++(32::ed l))))++[62,62]);simp
theorem wZ (Us:List Tk):∀rs:List aY,aC (fH (cg (rs.map bY))::(dR (cg (rs.map bY))++Us))=32::(c9 rs++(93::aC Us))
 | []=>rfl
 | x::rs=>by
  change 32::(az x.n++(32::([49]++aC (fH (cg (rs.map bY))::(dR (cg (rs.map bY))++Us)))))=_;rw[wZ Us rs];change _=32::(az x.n++([32,49,32]++c9 rs)++(93::aC Us));simp
theorem zn {ds:LU}:∀{l:List g6},ds∈cg l->∃x∈l,ds=x.nd\/ds=[49]
 | [],h=>nomatch h
 | x::l,h=>by
  rcases mV (show ds∈x.nd::[49]::cg l from h) with rfl | h
  . show⟨x,bJ,.inl rfl⟩
  rcases mV h with rfl | h
  . show⟨x,bJ,.inr rfl⟩
  show ae (zn h) fun y hy e=>?_;show⟨y,du _ hy,e⟩
noncomputable def dq (Ut:List aY) (ks:Ks):List cU:=(CZ,.name C8)::(bW,.arr [[49],[52],[50]])::(ti,.arr (cg (Ut.map bY)))::dT (ks++[(ec,7*Ut.length)])
theorem Ek (Ut:List aY) (ks:Ks):[57,48]++([32]++([48]++([32]++([111,98,106]++([32]++([60,60]++aC (dh (dq Ut ks)::cB (dq Ut ks))))))))=Nb++(c9 Ut++(Nv++(ed ks++(Nw++(az (7*Ut.length)++[32,62,62]))))):=by
 have e:aC (dh (dq Ut ks)::cB (dq Ut ks))=[32,47,84,121,112,101,32,47,88,82,101,102,32,47,87,32,91,32,49,32,52,32,50,32,93,32,47,73,110,100,101,120,32,91]++aC (fH (cg (Ut.map bY))::(dR (cg (Ut.map bY))++dh (dT (ks++[(ec,7*Ut.length)]))::cB (dT (ks++[(ec,7*Ut.length)])))):=rfl;rw[e,wZ,sj,fY];change _=Nb++(c9 Ut++(Nv++(ed ks++(Nw++(az (7*Ut.length)++[32,62,62])))));have e2:ed [(ec,7*Ut.length)]=47::(ec++(32::(az (7*Ut.length)++[32]))):=rfl;rw[e2]
 delta Nb Nv Nw ec
 simp
structure fE (ks:Ks):Prop where
 nd:(ks.map (·.1)).Nodup
 names:∀y∈ks,y.1=be\/y.1=bk\/y.1=dH\/y.1=iJ
 vals:∀y∈ks,y.2<10^6
 len:ks.length<=4
theorem fE.good {ks:Ks} (h:fE ks):∀y∈dT ks,bx y.1/\y.2.good:=by
 intro y hy;show ae (bp.mp hy) fun z hz hr2=>?_;subst hr2;show⟨?_,fw (tq (h.vals z hz) zd)⟩;change bx z.1;rcases h.names z hz with e | e | e | e<;>rw[e]<;>show⟨zd,zd⟩
theorem nv {l:List LU} (h:l.Nodup):(l.map bd).Nodup:=IZ.mpr (List.Pairwise.imp (fun hne e=>hne (vf e)) h)
theorem fE.ind {ks:Ks} (h:fE ks):((dT ks).map (bd ·.1)).Nodup:=by
 have:(dT ks).map (bd ·.1)=(ks.map (·.1)).map bd:=by delta dT;rw[bq,bq];rfl
 rw[this];show nv h.nd
theorem Iw {x:aY} {ways:List Str} (h:bt ways x) (hw:∀s∈ways,s∈lB):(bY x).row=x:=by
 have h1:=h.one;have h2:=h.two;have hw:=h.way3 hw;obtain⟨n,way,one,two⟩:=x;dsimp only at h1 h2 hw;have t:∀m:Nat,m<256->m.toUInt8.toNat=m:=fun m hm=>by change m%256=m;lia
 have e:F1 (th way).toUInt8.toNat=way:=by rcases hw with rfl | rfl | rfl<;>kernel_rfl
 change(⟨ay 0 (az n),F1 (th way).toUInt8.toNat,256*(256*(256*(256*0+0)+(one/65536).toUInt8.toNat)+(one/256%256).toUInt8.toNat)+(one%256).toUInt8.toNat,256*(256*0+(two/256).toUInt8.toNat)+(two%256).toUInt8.toNat⟩:aY)=_;rw[bc,e,t (one/65536) zo,t (one/256%256) zo,t (one%256) zo,t (two/256) zo,t (two%256) zo];have e1:256*(256*(256*(256*0+0)+one/65536)+one/256%256)+one%256=one:=zo;have e2:256*(256*0+two/256)+two%256=two:=zo;rw[e1,e2]
theorem Gl {x:aY} {ways:List Str} (h:bt ways x):(bY x).good:=by
 have hn:=h.n;show⟨fw (tq h.n zd),?_,rfl,?_⟩
 . change(th x.way).toUInt8.toNat<3
   delta th
   split
   . decide
   split<;>decide
 . change ay 0 (az x.n)<=_;rw[bc];lia
theorem yu {Ut:List aY} {ks:Ks} {ways:List Str} {D R ws:LU} {p:Nat} (hr:∀x∈Ut,bt ways x) (hw:∀s∈ways,s∈lB) (nd:(Ut.map (·.n)).Nodup) (hz:Ut.length<=10) (hk:fE ks) (hws:∀c∈ws,qm c=true) (hR:BE R)
 (hd:D.drop p=ws++(a6 Ut (ed ks)++R)):f7 D p (dq Ut ks) (Ut.map bY):=by
 have hk2:fE []:=⟨List.nodup_nil,aF,aF,Nat.zero_le _⟩;have ln:7*Ut.length<10^40:=Df (show _<=70 by lia) zd;have nl:ec∉ks.map (·.1):=fun h=>by
  show ae (bp.mp h) fun y hy e=>?_;have:=hk.names y hy;rw[e] at this
  revert this;decide
 have mm:∀x∈Ut.map bY,∃y∈Ut,bY y=x:=fun x hx=>bp.mp hx;have ind:((dq Ut ks).map (bd ·.1)).Nodup:=by
  have e:(dq Ut ks).map (bd ·.1)=(CZ::bW::ti::(ks.map (·.1)++[ec])).map bd:=by
   delta dq dT
   simp
  rw[e];show nv ?_;have no:∀b:LU,(b≠be/\b≠bk/\b≠dH/\b≠iJ)->b∉ks.map (·.1):=fun b hb h=>by
   show ae (bp.mp h) fun y hy e=>?_;rcases hk.names y hy with q | q | q | q<;>rw[e] at q
   . show hb.1 q
   . show hb.2.1 q
   . show hb.2.2.1 q
   . show hb.2.2.2 q
  rw[GT,GT,GT,Ey];show⟨?_,?_,?_,hk.nd,zs,?_⟩
  . simp only [GU,eL,not_or];show⟨zd,zd,no _ zd,zd,nofun⟩
  . simp only [GU,eL,not_or];show⟨zd,no _ zd,zd,nofun⟩
  . simp only [GU,eL,not_or];show⟨no _ zd,zd,nofun⟩
  . intro a ha b hb e;rw[dK.mp hb] at e;show nl (e▸ha)
 have kv:cP (dq Ut ks)=(("Type":Str),PV.name C8)::(("W":Str),PV.arr [[49],[52],[50]])::(("Index":Str),PV.arr (cg (Ut.map bY)))::(Gd (ey ks)++[(("Length":Str),PV.int (az (7*Ut.length)))]):=by
  change(bd CZ,_)::(bd bW,_)::(bd ti,_)::cP (dT (ks++[(ec,7*Ut.length)]))=_;rw[E9,QQ,C0,mR]
  delta ey Gd
  rw[pj,pj,<-zj];rfl
 show⟨⟨[57,48],[48],?_,⟨zd,nofun,zd⟩,⟨zd,nofun,zd⟩,?_,?_,ind,?_⟩,?_,?_,?_,?_⟩
 . show⟨ws,R,hws,hR,?_⟩;rw[hd];have:=Ek Ut ks
   delta a6
   have e4:Q4=[32,62,62]++([10]++(rN++[10])):=rfl;have e5:SD=[10]++(cJ++([32]++g0)):=rfl;rw[e4,e5];have:=congrArg (· ++([10]++(rN++([10]++(bj (Ut.map bY)++([10]++(cJ++([32]++(g0++R))))))))) this;simp only [u9] at this⊢;rw[this]
 . intro y hy;rcases mV hy with rfl | hy
   . show⟨⟨zd,zd⟩,zd,zd⟩
   rcases mV hy with rfl | hy
   . show⟨⟨zd,zd⟩,zd,fun ds hds=>by
      rcases mV hds with rfl | hds
      . show⟨zd,nofun,zd⟩
      rcases mV hds with rfl | hds
      . show⟨zd,nofun,zd⟩
      . rw[dK.mp hds];show⟨zd,nofun,zd⟩⟩
   rcases mV hy with rfl | hy
   . show⟨show bx ti from⟨zd,zd⟩,?_,fun ds hds=>?_⟩
     . rw[cL,a9];lia
     . show ae (zn hds) fun x hx e=>?_;show ae (mm x hx) fun y hy hr2=>?_;subst hr2;rcases e with rfl | rfl
       . show fw (tq (hr y hy).n zd)
       . show⟨zd,nofun,zd⟩
   . show ae (bp.mp hy) fun z hz hr2=>?_;subst hr2;rcases eL.mp hz with hz | hz
     . show hk.good _ (bp.mpr ⟨z,hz,rfl⟩)
     . rw[dK.mp hz];show⟨show bx ec from⟨zd,zd⟩,fw ln⟩
 . have:=hk.len
   delta dq dT
   simp;lia
 . show⟨az (7*Ut.length),?_,?_⟩
   . rw[bc,nu]
   . rw[kv];show du _ (du _ (du _ (List.mem_append_right _ (dK.mpr rfl))))
 . have pn:∀y∈cP (dq Ut ks),y.1="Type"\/y.1="W"\/y.1="Index"\/y.1="Length"\/y.1="Size"\/y.1="Prev"\/y.1="Mark"\/y.1="XRefStm":=fun y hy=>by
    rw[kv] at hy;rcases mV hy with rfl | hy
    . show .inl rfl
    rcases mV hy with rfl | hy
    . show .inr (.inl rfl)
    rcases mV hy with rfl | hy
    . show .inr (.inr (.inl rfl))
    rcases eL.mp hy with hy | hy
    . show ae (bp.mp hy) fun z hz hr2=>?_;subst hr2;show ae (bp.mp hz) fun u hu hr2=>?_;subst hr2;have:=hk.names u hu;dsimp only;rcases this with e | e | e | e<;>rw[e]
      . rw[vg];simp
      . rw[jg];simp
      . rw[si];simp
      . rw[wY];simp
    . rw[dK.mp hy];simp
   show⟨?_,?_,⟨C8,J6,?_⟩,?_,?_,fun y hy=>?_,fun y hy=>?_⟩
   . rw[bq];show ind
   . have:=hk.len
     delta dq dT
     simp;lia
   . rw[kv];show bJ
   . rw[kv];show du _ bJ
   . rw[kv];show du _ (du _ bJ)
   . rcases pn y hy with e | e | e | e | e | e | e | e<;>rw[e]<;>decide
   . rcases pn y hy with e | e | e | e | e | e | e | e<;>rw[e]<;>decide
 . intro x hx;show ae (mm x hx) fun y hy hr2=>?_;subst hr2;show Gl (hr y hy)
 . have:(Ut.map bY).map (ay 0 ·.nd)=Ut.map (·.n):=by
    rw[bq];show GG fun x _=>bc x.n
   rw[this];show nd
 . rw[a9];lia
theorem Nc {Ut:List aY} {ks:Ks} (hk:fE ks):(cP (dq Ut ks)).filter (fun y=>lm y.1)=Gd (ey ks):=by
 have kv:cP (dq Ut ks)=(("Type":Str),PV.name C8)::(("W":Str),PV.arr [[49],[52],[50]])::(("Index":Str),PV.arr (cg (Ut.map bY)))::(Gd (ey ks)++[(("Length":Str),PV.int (az (7*Ut.length)))]):=by
  change(bd CZ,_)::(bd bW,_)::(bd ti,_)::cP (dT (ks++[(ec,7*Ut.length)]))=_;rw[E9,QQ,C0,mR]
  delta ey Gd
  rw[pj,pj,<-zj];rfl
 rw[kv,List.filter_cons_of_neg (by dsimp only;decide),List.filter_cons_of_neg (by dsimp only;decide),List.filter_cons_of_neg (by dsimp only;decide),List.filter_append,List.filter_cons_of_neg (by dsimp only;decide),List.filter_nil,Bo,List.filter_eq_self];intro y hy;show ae (bp.mp hy) fun z hz hr2=>?_;subst hr2;show ae (bp.mp hz) fun u hu hr2=>?_;subst hr2;dsimp only;rcases hk.names u hu with e | e | e | e<;>rw[e]
 . rw[vg];decide
 . rw[jg];decide
 . rw[si];decide
 . rw[wY];decide
theorem w9 {Ut:List aY} {ks:Ks} {D R ws:LU} {p:Nat} (hr:∀x∈Ut,bt ["used","free"] x) (nd:(Ut.map (·.n)).Nodup) (hz:Ut.length<=10) (hk:fE ks) (hws:∀c∈ws,qm c=true)
 (hd:D.drop p=ws++(bo Ut (ed ks)++R)):eH D p (Ut.map cf) (dT ks):=by
 show⟨⟨ws,R,hws,?_⟩,hk.good,?_,hk.ind,fun x hx=>?_,?_,?_⟩
 . rw[hd,sj]
   delta bo
   simp
 . have:=hk.len
   delta dT
   rw[a9];lia
 . show ae (bp.mp hx) fun y hy hr2=>?_;subst hr2;show nq (hr y hy)
 . have:(Ut.map cf).map (ay 0 ·.nd)=Ut.map (·.n):=by
    rw[bq];show GG fun x _=>bc x.n
   rw[this];show nd
 . rw[a9];lia
theorem L9 {Ut:List aY} (hr:∀x∈Ut,bt ["used","free"] x):(Ut.map cf).map (·.row)=Ut:=by
 rw[bq];have:Ut.map ((·.row)∘cf)=Ut.map id:=GG fun x hx=>Iq (by have:=(hr x hx).w;simpa using this);rw[this,List.map_id]
theorem Ma {Ut:List aY} {ways:List Str} (hr:∀x∈Ut,bt ways x) (hw:∀s∈ways,s∈lB):(Ut.map bY).map (·.row)=Ut:=by
 rw[bq];have:Ut.map ((·.row)∘bY)=Ut.map id:=GG fun x hx=>Iw (hr x hx) hw;rw[this,List.map_id]
end
set_option tactic.hygienic true
noncomputable section
open MeetsSeq
noncomputable def dJ (c:aY->Bool):List aY->List aY->List aY
 | Uq,[]=>Uq
 | Uq,x::r=>dJ c (if c x then pY Uq x else Uq) r
theorem Ix {l:List aY} {x y:aY}:y∈pY l x↔y=x\/(y∈l/\y.n≠x.n):=by
 unfold pY;split
 . rename_i h;show ae (Bn.mp h) fun z hz e=>?_;rw[bp];constructor
   . rintro ⟨a,ha,rfl⟩;split
     . show .inl rfl
     . rename_i hn;show .inr ⟨ha,hn⟩
   . rintro (rfl | ⟨h1,h2⟩)
     . show⟨z,hz,eM (Bi e)⟩
     . show⟨y,h1,dr h2⟩
 . rename_i h;have hn:∀z∈l,z.n≠x.n:=fun z hz e=>h (Bn.mpr ⟨z,hz,Bh.mpr e⟩);rw[eL,dK];constructor
   . rintro (h1 | rfl)
     . show .inr ⟨h1,hn y h1⟩
     . show .inl rfl
   . rintro (rfl | ⟨h1,-⟩)
     . show .inr rfl
     . show .inl h1
theorem J7 {l:List aY} {x:aY} (h:(l.map (·.n)).Nodup):((pY l x).map (·.n)).Nodup:=by
 unfold pY;split
 . have e:(l.map fun y=>if y.n=x.n then x else y).map (·.n)=l.map (·.n):=by
    rw[bq];show GG fun y _=>?_;change(if y.n=x.n then x else y).n=y.n;split
    . rename_i e;show e.symm
    . rfl
   rw[e];show h
 . rename_i hx;rw[pj,Ey];show⟨h,zs,fun a ha b hb e=>?_⟩;show ae (bp.mp ha) fun z hz hr2=>?_;subst hr2;rw[List.map_singleton,dK] at hb;show hx (Bn.mpr ⟨z,hz,Bh.mpr (e.trans hb)⟩)
theorem j4 {c:aY->Bool}:∀{rs Uq:List aY},(Uq.map (·.n)).Nodup->((dJ c Uq rs).map (·.n)).Nodup
 | [],_,h=>h
 | x::rs,Uq,h=>by
  change((dJ c (if c x then pY Uq x else Uq) rs).map (·.n)).Nodup;show j4 ?_;split
  . show J7 h
  . show h
theorem kM {c:aY->Bool} {y:aY}:∀{rs Uq:List aY},(rs.map (·.n)).Nodup->(y∈dJ c Uq rs↔(y∈rs/\c y=true)\/(y∈Uq/\∀x∈rs,c x=true->x.n≠y.n))
 | [],Uq,_=>⟨fun h=> .inr ⟨h,aF⟩,fun h=>h.elim (fun h=>nomatch h.1) And.left⟩
 | x::rs,Uq,nd=>by
  rw[dI,GT] at nd;have hx:∀z∈rs,z.n≠x.n:=fun z hz e=>nd.1 (bp.mpr ⟨z,hz,e⟩);change y∈dJ c (if c x then pY Uq x else Uq) rs↔_;rw[kM nd.2];by_cases hc:c x=true
  . rw[eM hc,Ix];constructor
    . rintro (⟨h1,h2⟩ | ⟨h1 | ⟨h1,h1'⟩,h2⟩)
      . show .inl ⟨du _ h1,h2⟩
      . rw[h1];show .inl ⟨bJ,hc⟩
      . show .inr ⟨h1,fun z hz hcz=>?_⟩;rcases mV hz with rfl | hz
        . show ez h1'
        . show h2 z hz hcz
    . rintro (⟨h1,h2⟩ | ⟨h1,h2⟩)
      . rcases mV h1 with rfl | h1
        . show .inr ⟨.inl rfl,fun z hz _=>hx z hz⟩
        . show .inl ⟨h1,h2⟩
      . show .inr ⟨.inr ⟨h1,ez (h2 x bJ hc)⟩,fun z hz=>h2 z (du _ hz)⟩
  . rw[dr hc];constructor
    . rintro (⟨h1,h2⟩ | ⟨h1,h2⟩)
      . show .inl ⟨du _ h1,h2⟩
      . show .inr ⟨h1,fun z hz hcz=>?_⟩;rcases mV hz with rfl | hz
        . show absurd hcz hc
        . show h2 z hz hcz
    . rintro (⟨h1,h2⟩ | ⟨h1,h2⟩)
      . rcases mV h1 with rfl | h1
        . show absurd h2 hc
        . show .inl ⟨h1,h2⟩
      . show .inr ⟨h1,fun z hz=>h2 z (du _ hz)⟩
theorem Fa {l:List aY} (h:(l.map (·.n)).Nodup):l.Nodup:=(IZ.mp h).imp fun hne e=>hne (congrArg aY.n e)
theorem El {l:List aY} (h:(l.map (·.n)).Nodup) {x y:aY} (hx:x∈l) (hy:y∈l) (e:x.n=y.n):x=y:=by
 induction l with
 | nil=>cases hx
 | cons z l ih=>
  have h:=GT.mp h;rcases mV hx with rfl | h1<;>rcases mV hy with rfl | h2
  . rfl
  . show absurd (bp.mpr ⟨y,h2,e.symm⟩) h.1
  . show absurd (bp.mpr ⟨x,h1,e⟩) h.1
  . show ih h.2 h1 h2
theorem zp (low:List aY):∀rs Uq:List aY,mz low Uq rs=dJ (fun x=>!(low.any fun y=>y.n==x.n) || x.way !="free") Uq rs
 | [],_=>rfl
 | x::rs,Uq=>by
  change mz low (if !(low.any fun y=>y.n==x.n) || x.way !="free" then pY Uq x else Uq) rs=_;rw[zp low rs];rfl
noncomputable def xa (tab:List aY) (x:aY):Bool:=!(tab.any fun y=>y.n==x.n) || tab.any fun y=>y.n==x.n&&y.way=="free"
theorem Gm {low low' up up':List aY} (pl:low'.Perm low) (pu:up'.Perm up) (n1:(low.map (·.n)).Nodup) (n2:(up.map (·.n)).Nodup):(mz low' low' up').Perm (dJ (xa up) up low):=by
 have n1':(low'.map (·.n)).Nodup:=(pl.map _).nodup_iff.mpr n1;have n2':(up'.map (·.n)).Nodup:=(pu.map _).nodup_iff.mpr n2;rw[zp];show(List.perm_ext_iff_of_nodup (Fa (j4 n1')) (Fa (j4 n2))).mpr fun y=>?_;rw[kM n2',kM n1,pl.mem_iff,pu.mem_iff];have a1:∀x:aY,(low'.any fun y=>y.n==x.n)=true↔∃z∈low,z.n=x.n:=fun x=>by
  rw[Bn];show⟨fun⟨z,hz,e⟩=>⟨z,pl.mem_iff.mp hz,Bi e⟩,fun⟨z,hz,e⟩=>⟨z,pl.mem_iff.mpr hz,Bh.mpr e⟩⟩
 have a2:∀x:aY,(up.any fun y=>y.n==x.n)=true↔∃z∈up,z.n=x.n:=fun x=>by
  rw[Bn];show⟨fun⟨z,hz,e⟩=>⟨z,hz,Bi e⟩,fun⟨z,hz,e⟩=>⟨z,hz,Bh.mpr e⟩⟩
 have c1:∀x:aY,(!(low'.any fun y=>y.n==x.n) || x.way !="free")=true↔(¬∃z∈low,z.n=x.n)\/x.way≠"free":=fun x=>by
  rw[Mq,Bool.not_eq_true',<-Bool.not_eq_true,a1,bne_iff_ne]
 have c2:∀x:aY,xa up x=true↔(¬∃z∈up,z.n=x.n)\/∃z∈up,z.n=x.n/\z.way="free":=fun x=>by
  unfold xa;rw[Mq,Bool.not_eq_true',<-Bool.not_eq_true,a2,Bn];simp only [nH,Bh]
 rw[c1,c2];constructor
 . rintro (⟨h1,h2⟩ | ⟨h1,h2⟩)
   . show .inr ⟨h1,fun x hx hc e=>?_⟩;rcases h2 with h2 | h2
     . show h2 ⟨x,hx,e⟩
     . rcases (c2 x).mp hc with h | ⟨z,hz,e1,e2⟩
       . show h ⟨y,h1,e.symm⟩
       . rw[El n2 hz h1 (e1.trans e)] at e2;show h2 e2
   . show .inl ⟨h1,?_⟩;by_cases hu:∃z∈up,z.n=y.n
     . show ae hu fun z hz e=>?_;show .inr ⟨z,hz,e,?_⟩;by_cases hw:z.way="free"
       . show hw
       . show absurd e (h2 z (pu.mem_iff.mpr hz) ((c1 z).mpr (.inr hw)))
     . show .inl hu
 . rintro (⟨h1,h2⟩ | ⟨h1,h2⟩)
   . show .inr ⟨h1,fun x hx hc e=>?_⟩;have hx:=pu.mem_iff.mp hx;rcases h2 with h2 | ⟨z,hz,e1,e2⟩
     . show h2 ⟨x,hx,e⟩
     . rcases (c1 x).mp hc with h | h
       . show h ⟨y,h1,e.symm⟩
       . rw[El n2 hz hx (e1.trans e.symm)] at e2;show h e2
   . show .inl ⟨h1,?_⟩;by_cases hl:∃z∈low,z.n=y.n
     . show ae hl fun z hz e=>?_;show .inr fun hw=>?_;show h2 z hz ((c2 z).mpr (.inr ⟨y,h1,e.symm,hw⟩)) e
     . show .inl hl
def lC:List (List aY)->aY->Prop
 | [],_=>False
 | t::ts,y=>y∈t\/(lC ts y/\∀x∈t,x.n≠y.n)
noncomputable def fZ:List (List aY)->List aY
 | []=>[]
 | t::ts=>dJ (fun _=>true) (fZ ts) t
theorem ny:∀ts:List (List aY),((fZ ts).map (·.n)).Nodup
 | []=>List.nodup_nil
 | t::ts=>j4 (ny ts)
theorem qi {y:aY}:∀{ts:List (List aY)},(∀t∈ts,(t.map (·.n)).Nodup)->(y∈fZ ts↔lC ts y)
 | [],_=>⟨nofun,nofun⟩
 | t::ts,h=>by
  change y∈dJ (fun _=>true) (fZ ts) t↔_;rw[kM (h t bJ),qi fun u hu=>h u (du _ hu)];show⟨fun h=>h.imp And.left fun h=>⟨h.1,fun x hx=>h.2 x hx rfl⟩,fun h=>h.imp (fun h=>⟨h,rfl⟩) fun h=>⟨h.1,fun x hx _=>h.2 x hx⟩⟩
theorem sk {y:aY}:∀{rs Uq:List aY},(rs.map (·.n)).Nodup->(y∈IQ Uq rs↔y∈Uq\/(y∈rs/\∀x∈Uq,x.n≠y.n))
 | [],Uq,_=>⟨.inl,fun h=>h.elim id fun h=>nomatch h.1⟩
 | x::rs,Uq,nd=>by
  rw[dI,GT] at nd;have hx:∀z∈rs,z.n≠x.n:=fun z hz e=>nd.1 (bp.mpr ⟨z,hz,e⟩);change y∈IQ (if Uq.any (fun y=>y.n==x.n) then Uq else Uq++[x]) rs↔_;rw[sk nd.2];split
  . rename_i h;show ae (Bn.mp h) fun z hz e=>?_;show or_congr_right (and_congr_left fun hn=>?_);rw[GU];show⟨.inr,fun h=>h.elim (fun e2=>?_) id⟩;show absurd (e2▸Bi e) (hn z hz)
  . rename_i h;have hn:∀z∈Uq,z.n≠x.n:=fun z hz e=>h (Bn.mpr ⟨z,hz,Bh.mpr e⟩);rw[eL,dK,GU];constructor
    . rintro ((h1 | rfl) | ⟨h1,h2⟩)
      . show .inl h1
      . show .inr ⟨.inl rfl,hn⟩
      . show .inr ⟨.inr h1,fun z hz=>h2 z (IY _ hz)⟩
    . rintro (h1 | ⟨rfl | h1,h2⟩)
      . show .inl (.inl h1)
      . show .inl (.inr rfl)
      . show .inr ⟨h1,fun z hz=>?_⟩;rcases eL.mp hz with hz | hz
        . show h2 z hz
        . rw[dK.mp hz];show ez (hx y h1)
theorem Iy:∀{rs Uq:List aY},(Uq.map (·.n)).Nodup->((IQ Uq rs).map (·.n)).Nodup
 | [],_,h=>h
 | x::rs,Uq,h=>by
  change((IQ (if Uq.any (fun y=>y.n==x.n) then Uq else Uq++[x]) rs).map (·.n)).Nodup;show Iy ?_;split
  . show h
  . rename_i hx;rw[pj,Ey];show⟨h,zs,fun a ha b hb e=>?_⟩;show ae (bp.mp ha) fun z hz hr2=>?_;subst hr2;rw[List.map_singleton,dK] at hb;show hx (Bn.mpr ⟨z,hz,Bh.mpr (e.trans hb)⟩)
theorem xb:∀{ts:List (List aY)} {Uq:List aY},(Uq.map (·.n)).Nodup->((iB Uq ts).map (·.n)).Nodup
 | [],_,h=>h
 | t::ts,Uq,h=>xb (ts:=ts) (Iy h)
theorem zq {y:aY}:∀{ts:List (List aY)} {Uq:List aY},(∀t∈ts,(t.map (·.n)).Nodup)->(y∈iB Uq ts↔y∈Uq\/(lC ts y/\∀x∈Uq,x.n≠y.n))
 | [],Uq,_=>⟨.inl,fun h=>h.elim id fun h=>nomatch h.1⟩
 | t::ts,Uq,h=>by
  have nt:=h t bJ;change y∈iB (IQ Uq t) ts↔_;rw[zq fun u hu=>h u (du _ hu),sk nt];constructor
  . rintro ((h1 | ⟨h1,h2⟩) | ⟨h1,h2⟩)
    . show .inl h1
    . show .inr ⟨.inl h1,h2⟩
    . have h3:∀x∈Uq,x.n≠y.n:=fun x hx=>h2 x ((sk nt).mpr (.inl hx));show .inr ⟨.inr ⟨h1,fun x hx e=>?_⟩,h3⟩;show h2 x ((sk nt).mpr (.inr ⟨hx,fun z hz e2=>h3 z hz (e2.trans e)⟩)) e
  . rintro (h1 | ⟨h1 | ⟨h1,h2⟩,h3⟩)
    . show .inl (.inl h1)
    . show .inl (.inr ⟨h1,h3⟩)
    . show .inr ⟨h1,fun x hx=>?_⟩;rcases (sk nt).mp hx with hx | ⟨hx,-⟩
      . show h3 x hx
      . show h2 x hx
theorem lC.perm {α:Type} {f g:α->List aY} {y:aY}:∀{ps:List α},(∀a∈ps,(f a).Perm (g a))->(lC (ps.map f) y↔lC (ps.map g) y)
 | [],_=>Iff.rfl
 | a::ps,h=>
  have p:=h a bJ
  or_congr p.mem_iff (and_congr (lC.perm fun b hb=>h b (du _ hb)) ⟨fun h x hx=>h x (p.mem_iff.mpr hx),fun h x hx=>h x (p.mem_iff.mp hx)⟩)
theorem Iz {α:Type} {f g:α->List aY} {ps:List α} (h:∀a∈ps,(f a).Perm (g a)) (n2:∀a∈ps,((g a).map (·.n)).Nodup):(iB [] (ps.map f)).Perm (fZ (ps.map g)):=by
 show(List.perm_ext_iff_of_nodup (Fa (xb (Uq:=[]) List.nodup_nil)) (Fa (ny _))).mpr fun y=>?_;rw[zq fun t ht=>?_,qi fun t ht=>?_,lC.perm h]
 . show⟨fun h=>h.elim (fun h=>nomatch h) And.left,fun h=> .inr ⟨h,aF⟩⟩
 . show ae (bp.mp ht) fun a ha hr2=>?_;subst hr2;show n2 a ha
 . show ae (bp.mp ht) fun a ha hr2=>?_;subst hr2;show((h a ha).map _).nodup_iff.mpr (n2 a ha)
end
set_option tactic.hygienic false
noncomputable section
open MeetsSeq
noncomputable def AS.out (σ:AS) (N:List Addr):AS:=fun a=>if a∈N then none else σ a
theorem AS.out_in {σ:AS} {N:List Addr} {a:Addr} (h:a∈N):σ.out N a=none:=eM h
theorem AS.out_not {σ:AS} {N:List Addr} {a:Addr} (h:a∉N):σ.out N a=σ a:=dr h
theorem AS.out_sub {σ:AS} {N:List Addr}:(σ.out N).Sub σ:=fun a o e=>by
 unfold AS.out at e;split at e
 . cases e
 . show e
theorem AS.out_set {σ:AS} {N:List Addr} {a:Addr} {o:AO} (h:a∈N):(σ.set a o).out N=σ.out N:=funext fun b=>by
 by_cases hb:b∈N
 . rw[AS.out_in hb,AS.out_in hb]
 . rw[AS.out_not hb,AS.out_not hb,AS.UK (fun e:b=a=>hb (e▸h))]
def Kp (N:List Addr) (σ UH:AS):Prop:=∀a o,a∉N->σ a=some o->UH a=some o
theorem Kp.rfl {N:List Addr} {σ:AS}:Kp N σ σ:=fun _ _ _ h=>h
theorem Kp.trans {N:List Addr} {a b c:AS} (h1:Kp N a b) (h2:Kp N b c):Kp N a c:=fun x o hx h=>h2 x o hx (h1 x o hx h)
theorem Kp.mono {N M:List Addr} {a b:AS} (h:Kp N a b) (s:∀x∈N,x∈M):Kp M a b:=fun x o hx e=>h x o (fun hn=>hx (s x hn)) e
theorem Kp.sub {N:List Addr} {a b:AS} (h:a.Sub b):Kp N a b:=fun x o _ e=>h x o e
theorem Kp.set {N:List Addr} {σ:AS} {a:Addr} {o:AO} (h:a∈N):Kp N σ (σ.set a o):=fun x _ hx e=>(AS.UK (fun e:x=a=>hx (e▸h))).trans e
theorem Kp.out {N:List Addr} {a b:AS} (h:Kp N a b):(a.out N).Sub (b.out N):=fun x o e=>by
 by_cases hx:x∈N
 . rw[AS.out_in hx] at e;cases e
 . rw[AS.out_not hx] at e⊢;show h x o hx e
structure gS (σ:AS) (P L:Addr):Prop where
 ex:∃ns c v,σ P=some (.list [.ref L,.int c,.int v])/\σ L=some (.list ((ns:List Int).map .int))/\ns.length<=1000
theorem gS.ne {P L:Addr} (h:gS σ P L):P≠L:=by
 show eg h.ex fun ns c v h1 h2 _=>?_;intro e;rw[<-e,h1] at h2;cases ns with
 | nil=>cases h2
 | cons n ns=>injection h2 with h2;injection h2 with h2;injection h2 with h2;cases h2
theorem gS.kp {N:List Addr} {σ UH:AS} {P L:Addr} (h:gS σ P L) (K:Kp N σ UH) (h1:P∉N) (h2:L∉N):gS UH P L:=by
 show eg h.ex fun ns c v e1 e2 e3=>?_;show⟨ns,c,v,K _ _ h1 e1,K _ _ h2 e2,e3⟩
theorem gS.eq {P L:Addr} (h:gS σ P L):∃ns c v,σ=pS (σ.out [P,L]) P L ns c v/\fL (σ.out [P,L]) P L/\ns.length<=1000:=by
 show eg h.ex fun ns c v h1 h2 h3=>?_;show⟨ns,c,v,funext fun a=>?_,⟨AS.out_in bJ,AS.out_in (du _ bJ),h.ne⟩,h3⟩;unfold pS;by_cases e1:a=P
 . rw[e1,AS.UJ,h1]
 rw[AS.UK e1];by_cases e2:a=L
 . rw[e2,AS.UJ,h2]
 rw[AS.UK e2,AS.out_not (by simp [e1,e2])]
theorem gS.pS {β:AS} {P L:Addr} {ns:List Int} {c v:Int} (h:fL β P L) (hl:ns.length<=1000):gS (pS β P L ns c v) P L:=⟨ns,c,v,fL.atP,h.atL,hl⟩
theorem Kp.pS {σ β':AS} {P L:Addr} {ns:List Int} {c v:Int} (hp:fL β' P L) (S:(σ.out [P,L]).Sub β'):Kp [P,L] σ (pS β' P L ns c v):=fun a o ha e=>hp.sub _ _ (S _ _ ((AS.out_not ha).trans e))
theorem tj (W:WW) {P L:Addr} (m:Nat) (h:gS σ P L) (hm:0<m) (hz:m<=1000000) (hq:∀(r:Nat) (UH:AS),r<m->gS UH P L->Kp [P,L] σ UH->Q (.int r) UH):aa (k+1) (.ref 1820) [.ref P,.int m] σ Q X:=by
 show eg h.eq fun ns c v e hp hl=>?_;rw[e];show td W hp hm hz hl fun r ns' c' v' hr hl'=>hq r _ hr (.pS hp hl') (.pS hp AS.Sub.rfl)
theorem Fb (W:WW) {P L I:Addr} {ways:List Str} (h:gS σ P L) (hI:σ I=some (.list (ways.map .str))) (hw:ways≠[]) (hwl:ways.length<=1000)
 (hq:∀(T:Addr) (UH:AS) (rows:List aY),(∀a o,σ a=some o->a≠T)->gS UH P L->Kp [P,L] σ UH->bD (UH.out [P,L]) T rows->(rows.map (·.n)).Nodup->(∀x∈rows,bt ways x)->rows.length<=4->Q (.ref T) UH):
 aa (k+3) (.ref 1834) [.ref P,.ref I] σ Q X:=by
 show eg h.eq fun ns c v e hp hl=>?_;have nP:I≠P:=fun ep=>by
  rw[ep,e,fL.atP] at hI;cases ways with
  | nil=>show hw rfl
  | cons a l=>cases hI
 have nL:I≠L:=fun ep=>by
  rw[ep,e,hp.atL] at hI;cases ways with
  | nil=>show hw rfl
  | cons a l=>cases ns with
   | nil=>cases hI
   | cons n ns=>injection hI with hI;injection hI with hI;injection hI with hI;cases hI
 have hI2:(σ.out [P,L]) I=some (.list (ways.map .str)):=(AS.out_not (by simp [nP,nL])).trans hI;rw[e];show J4 W hp hI2 hw hwl hl fun T UH ns' c' v' rows t1 t2 t3 S hp' hl' hT nd hr hz _=>?_;have K:=Kp.pS (ns:=ns') (c:=c') (v:=v') hp' S;show hq T _ rows (fun a o ha et=>?_) (.pS hp' hl') K (hT.sub fun a o ea=>?_) nd hr hz
 . subst et;rw[AS.out_not (by simp [t2,t3])] at t1;rw[t1] at ha;cases ha
 . have n1:a≠P:=fun e=>by rw[e,hp'.p] at ea;cases ea
   have n2:a≠L:=fun e=>by rw[e,hp'.l] at ea;cases ea
   show(AS.out_not (by simp [n1,n2])).trans (hp'.sub _ _ ea)
theorem J8:(Str.ofString "/")=bd [47]:=zk
structure Cl (σ:AS) (P L Wd:Addr) (D:LU) (A:Addr):Prop where
 pen:gS σ P L
 w:σ Wd=some (.list [.bytes D,.ref A])
 n1:Wd≠P
 n2:Wd≠L
noncomputable abbrev cr (P L Wd:Addr):List Addr:=[P,L,Wd]
section
variable {P L Wd A:Addr} {D:LU} {UH:AS}
theorem Cl.draw (C:Cl σ P L Wd D A) (h:gS UH P L) (K:Kp [P,L] σ UH):Cl UH P L Wd D A:=⟨h,K _ _ (by simp [C.n1,C.n2]) C.w,C.n1,C.n2⟩
theorem Cl.kp {N:List Addr} (C:Cl σ P L Wd D A) (K:Kp N σ UH) (h1:P∉N) (h2:L∉N) (h3:Wd∉N):Cl UH P L Wd D A:=⟨C.pen.kp K h1 h2,K _ _ h3 C.w,C.n1,C.n2⟩
theorem Cl.sub (C:Cl σ P L Wd D A) (S:σ.Sub UH):Cl UH P L Wd D A:=C.kp (N:=[]) (Kp.sub S) nofun nofun nofun
theorem Cl.put {D':LU} {A':Addr} (C:Cl σ P L Wd D A):Cl (σ.set Wd (.list [.bytes D',.ref A'])) P L Wd D' A':=⟨C.pen.kp (Kp.set (N:=[Wd]) bJ) (by simp [ez C.n1]) (by simp [ez C.n2]),AS.UJ,C.n1,C.n2⟩
theorem Cl.live (C:Cl σ P L Wd D A):∀a∈cr P L Wd,σ a≠none:=by
 show eg C.pen.ex fun ns c v h1 h2 _=>?_;intro a ha;rcases mV ha with rfl | ha
 . rw[h1];nofun
 rcases mV ha with rfl | ha
 . rw[h2];nofun
 . rw[dK.mp ha,C.w];nofun
theorem Cl.new (C:Cl σ P L Wd D A) {r:Addr} (h:σ r=none):r∉cr P L Wd:=fun hr=>C.live r hr h
theorem Cl.add (C:Cl σ P L Wd D A) {r:Addr} {o:AO} (h:σ r=none):(σ.out (cr P L Wd)).Sub ((σ.set r o).out (cr P L Wd))/\(σ.set r o).out (cr P L Wd) r=some o:=
 ⟨(Kp.sub (AS.Sub.set h)).out,(AS.out_not (C.new h)).trans AS.UJ⟩
theorem Cl.step (C:Cl σ P L Wd D A) (K:Kp [P,L] σ UH):(σ.out (cr P L Wd)).Sub (UH.out (cr P L Wd)):=(K.mono fun x hx=>IY [Wd] hx).out
theorem Cl.outW {D':LU} {A':Addr}:(σ.set Wd (.list [.bytes D',.ref A'])).out (cr P L Wd)=σ.out (cr P L Wd):=AS.out_set zs
end
theorem IA (W:WW) {K:Addr} {ep:Nat} {ks:Ks} {Q:ax} {x0 x1 x2 x3 x4 x7 x8 x9 x10 x12:Option AV} (hk:fE ks) (hK:σ K=some (.dict ep ((ey ks).map fun y=>(.s y.1,.int y.2)))):∀(rs pre:Ks) (x11:Option AV),(∀y∈rs,y∈ks)->(ed pre).length+100*rs.length<=1000->
 (∀x11,Q .next [x0,x1,x2,x3,x4,some (.str (bd (ed pre++ed rs))),some (.ref K),x7,x8,x9,x10,x11,x12] σ)->
 bU (ui) uj (fun σ=>σ K=some (.dict ep ((ey ks).map fun y=>(.s y.1,.int y.2)))) k Q (rs.map fun y=> .str (bd y.1)) [x0,x1,x2,x3,x4,some (.str (bd (ed pre))),some (.ref K),x7,x8,x9,x10,x11,x12] σ:=by
 intro rs;induction rs with
 | nil=>intro pre x11 hm hz hq;have:=hq x11;rw[show ed []=[] from rfl,Bo] at this;show this
 | cons y rs ih=>
  intro pre x11 hm hz hq;have hy:=hm y bJ;rw[fF] at hz;rw[dI];have ly:y.1.length<=10:=by rcases hk.names y hy with e | e | e | e<;>rw[e]<;>decide
  have lv:(az y.2).length<=6:=aW zd (hk.vals y hy);have ha:(ed pre).length<=1000:=zo;left;rw[J8];show iF ha (Nat.le_refl 1) zl fun ha=>?_;show iF ha ly zl fun ha=>?_;rw[QO];show iF ha (Nat.le_refl 1) zl fun ha=>?_;have hy2:(bd y.1,y.2)∈ey ks:=bp.mpr ⟨y,hy,rfl⟩;have ndK:((ey ks).map (·.1)).Nodup:=by
   have:(ey ks).map (·.1)=(ks.map (·.1)).map bd:=by unfold ey;rw[bq,bq];rfl
   rw[this];show nv hk.nd
  show a8 (x:= .s (bd y.1)) hK (eN.get ndK hy2) ?_;show mJ y.2 (tq (hk.vals y hy) zd) ?_;show iF ha lv zl fun ha=>?_;show iF ha (Nat.le_refl 1) zl fun ha=>?_;have e:ed pre++[47]++y.1++[32]++az y.2++[32]=ed (pre++[y]):=by
   rw[fY,show ed [y]=47::(y.1++(32::(az y.2++[32]))) from rfl];simp
  rw[e];show⟨hK,ih (pre++[y]) _ (fun z hz=>hm z (du _ hz)) ?_ fun x11=>?_⟩
  . rw[fY,show ed [y]=47::(y.1++(32::(az y.2++[32]))) from rfl];simp;lia
  . have:=hq x11;rw[show y::rs=[y]++rs from rfl,fY,<-u9,<-fY] at this;show this
theorem J9 {ks:Ks}:((ey ks).map fun y=>((.s y.1:AK),(.int y.2:AV))).map (fun p=>p.1.av)=ks.map fun y=> .str (bd y.1):=by
 unfold ey;rw[bq,bq];rfl
noncomputable def fy (kind:Nat) (Ut:List aY) (ks:Ks):LU:=if kind=1 then a6 Ut (ed ks) else bo Ut (ed ks)
theorem Fc {ks:Ks} (h:∀y∈ks,y.1=be\/y.1=bk\/y.1=dH\/y.1=iJ) (hv:∀y∈ks,y.2<10^6):(ed ks).length<=20*ks.length:=by
 induction ks with
 | nil=>show Nat.le_refl _
 | cons y l ih=>
  have:=ih (fun z hz=>h z (du _ hz)) fun z hz=>hv z (du _ hz);have ly:y.1.length<=7:=by rcases h y bJ with e | e | e | e<;>rw[e]<;>decide
  have lv:(az y.2).length<=6:=aW zd (hv y bJ);change(47::(y.1++(32::(az y.2++(32::ed l))))).length<=_;simp;lia
theorem Bc {ks:Ks} (h:∀y∈ks,y.1=be\/y.1=bk\/y.1=dH\/y.1=iJ):∀c∈ed ks,c.toNat<128:=by
 induction ks with
 | nil=>nofun
 | cons y l ih=>
  intro c hc;have ly:∀c∈y.1,c.toNat<128:=by rcases h y bJ with e | e | e | e<;>rw[e]<;>show cM rfl
  rcases GU.mp (show c∈47::(y.1++(32::(az y.2++(32::ed l)))) from hc) with rfl | hc
  . decide
  rcases eL.mp hc with hc | hc
  . show ly c hc
  rcases mV hc with rfl | hc
  . decide
  rcases eL.mp hc with hc | hc
  . show qd (dp _ c hc)
  rcases mV hc with rfl | hc
  . decide
  . show ih (fun z hz=>h z (du _ hz)) c hc
theorem gt {Ut:List aY} {ways:List Str} {ks:Ks} {kind:Nat} (hr:∀x∈Ut,bt ways x) (hz:Ut.length<=10) (hk:fE ks):(fy kind Ut ks).length<=600:=by
 have kl:=Fc hk.names hk.vals;have kz:=hk.len;have rl:=zi hr;have pl:=mQ hr;have sb:=nu Ut;have dl:(az (7*Ut.length)).length<=2:=aW zd (by change _<100;lia);unfold fy;split
 . unfold a6;simp [Q1,Q2,Q3,Q5,Ug];lia
 . unfold bo;simp;lia
theorem C9 (W:WW) {P L Wd A T J K:Addr} {D tx:LU} {p:Nat} {kb kind:AV} {xs:List AV} {Q:ax} {b nw x9 x10 x11:Option AV} (C:Cl σ P L Wd D A) (hA:(σ.out (cr P L Wd)) A=some (.list xs)) (hx:xs.length<=100) (hD:D.length<=100000) (ht:tx.length<=600)
 (hq:∀(UH:AS) (t A':Addr) (l':aO),Cl UH P L Wd (D++10::tx) A'->(σ.out (cr P L Wd)).Sub (UH.out (cr P L Wd))->(UH.out (cr P L Wd)) A'=some (.list (.ref t::xs))->(UH.out (cr P L Wd)) t=some (.tup [.int p,.ref J,.ref K])->Q .next l' UH):
 MC (k+3) .Add (.bytes (D++[10])) (.bytes tx) σ (fun u Uv=>(CE.loc (F:=aP) 1 "world" ⟨1639,4,1639,9⟩ zk).tr (k+3) [some (.ref P),some (.ref Wd),b,nw,some kind,some kb,some (.ref K),some (.ref T),some (.ref J),x9,x10,x11,some (.int p)] Uv (fun a Uw=>zJ (k+3) a (.int 0) u Uw (fun Uy=>(mM).tr (k+3) [some (.ref P),some (.ref Wd),b,nw,some kind,some kb,some (.ref K),some (.ref T),some (.ref J),x9,x10,x11,some (.int p)] Uy Q X) X) X) X:=by
 show⟨by simp;lia,?_⟩;show lP (i:=0) C.w zl zl ?_;have e1:D++[10]++tx=D++10::tx:=zs;rw[e1];change(mM).tr (k+3) _ (σ.set Wd (.list [.bytes (D++10::tx),.ref A])) Q X;have C1:=C.put (D':=D++10::tx) (A':=A);have o1:(σ.set Wd (.list [.bytes (D++10::tx),.ref A])).out (cr P L Wd)=σ.out (cr P L Wd):=Cl.outW;rw[<-o1] at hA hq;generalize σ.set Wd (.list [.bytes (D++10::tx),.ref A])=σ1 at*;show⟨zl,?_⟩;intro t hT;show aL (C1.add (o:= .tup [.int p,.ref J,.ref K]) hT) fun S2 a2=>?_;have C2:=C1.sub (AS.Sub.set (o:= .tup [.int p,.ref J,.ref K]) hT);generalize σ1.set t (.tup [.int p,.ref J,.ref K])=σ2 at*;show⟨zl,?_⟩;intro V hV;show aL (C2.add (o:= .list [.ref t]) hV) fun S3 a3=>?_;have C3:=C2.sub (AS.Sub.set (o:= .list [.ref t]) hV);generalize σ2.set V (.list [.ref t])=σ3 at*;show ak (i:=1) C3.w rfl zd ?_;show yE (AS.out_sub _ _ a3) (AS.out_sub _ _ ((S2.trans S3) _ _ hA)) zu fun A' hA'=>?_;show aL (C3.add (o:= .list ([.ref t]++xs)) hA') fun S4 a4=>?_;have C4:=C3.sub (AS.Sub.set (o:= .list ([.ref t]++xs)) hA');generalize σ3.set A' (.list ([.ref t]++xs))=σ4 at*;show lP (i:=1) C4.w zl zl ?_;change Q .next _ (σ4.set Wd (.list [.bytes (D++10::tx),.ref A']));have o5:(σ4.set Wd (.list [.bytes (D++10::tx),.ref A'])).out (cr P L Wd)=σ4.out (cr P L Wd):=Cl.outW;show hq _ t A' _ C4.put ?_ ?_ ?_<;>rw[o5]
 . show(S2.trans S3).trans S4
 . show a4
 . show S4 _ _ (S3 _ _ a2)
theorem Da (W:WW) {P L Wd A T J K:Addr} {D:LU} {ks:Ks} {rows jr:List aY} {ways:List Str} {kind:Nat} {xs:List AV} {Q:ax} {b nw x9 x10 x11 x12:Option AV} (C:Cl σ P L Wd D A) (hA:(σ.out (cr P L Wd)) A=some (.list xs)) (hx:xs.length<=100) (hD:D.length<=100000)
 (hk:fE ks) (hK:eN (σ.out (cr P L Wd)) K (ey ks)) (hT:bD (σ.out (cr P L Wd)) T rows) (hJ:bD (σ.out (cr P L Wd)) J jr) (nd:(rows.map (·.n)).Nodup) (hr:∀x∈rows,bt ways x) (hw:∀s∈ways,s∈lB) (hc:kind≠1->∀x∈rows,bt ["used","free"] x) (hz:rows.length<=10)
 (hq:∀(UH:AS) (Ut:List aY) (p:Nat) (t A':Addr) (l':aO),Ut.Perm rows->D.length<=p->p<=D.length+1->Cl UH P L Wd (D++10::fy kind Ut ks) A'->(σ.out (cr P L Wd)).Sub (UH.out (cr P L Wd))->(UH.out (cr P L Wd)) A'=some (.list (.ref t::xs))->
  (UH.out (cr P L Wd)) t=some (.tup [.int p,.ref J,.ref K])->Q .next l' UH):
 (mN).tr (k+3) [some (.ref P),some (.ref Wd),b,nw,some (.int kind),some (.str (bd [])),some (.ref K),some (.ref T),some (.ref J),x9,x10,x11,x12] σ Q X:=by
 have kl:=Fc hk.names hk.vals;have kz:=hk.len;show aw hK fun ep hKd=>?_;show eQ.of cQ (AS.out_sub _ _ hKd) ?_;rw[J9];show IA W hk (AS.out_sub _ _ hKd) ks [] x11 (fun _ h=>h) (by change 0+_<=_;lia) fun x11=>?_;rw[show ed []++ed ks=ed ks from rfl];show ak (i:=0) C.w rfl zd ?_;show am zo ?_;show tj W 2 C.pen zd zd fun r σ1 hr1 p1 K1=>?_;have C1:=C.draw p1 K1;have S1:=C.step K1;show ak (i:=0) C1.w rfl zd ?_;show⟨by change D.length+1<=_;lia,?_⟩;have hT1:=hT.sub (S1.trans AS.out_sub);show Br.mk (fun hv=>?_) (fun hv=>?_)
 . have hk1:kind=1:=by have:=GH hv;lia
   show sg W hT1 nd hr hw hz (Bc hk.names) zo fun Ut ps=>?_;have et:a6 Ut (ed ks)=fy kind Ut ks:=(eM hk1).symm;rw[et];show C9 W C1 (S1 _ _ hA) hx hD (gt (fun x hx=>hr x (ps.subset hx)) (by rw[ps.length_eq];show hz) hk) (hq:=fun UH t A' l' c1 c2 c3 c4=>hq UH Ut (D.length+r) t A' l' ps zo zo c1 (S1.trans c2) c3 c4)
 . have hk1:kind≠1:=fun e=>by subst e;show absurd hv zd
   show yt W hT1 nd (hc hk1) hz (Bc hk.names) zo fun Ut ps=>?_;have et:bo Ut (ed ks)=fy kind Ut ks:=(dr hk1).symm;rw[et];show C9 W C1 (S1 _ _ hA) hx hD (gt (fun x hx=>hr x (ps.subset hx)) (by rw[ps.length_eq];show hz) hk) (hq:=fun UH t A' l' c1 c2 c3 c4=>hq UH Ut (D.length+r) t A' l' ps zo zo c1 (S1.trans c2) c3 c4)
theorem Gn {tl:List ER} {n:Nat} {x:aY} (e:x.n=n) (h:((tl.map (·.r)).any fun z=>z.n==n)=false):xa (tl.map (·.r)) x=true:=by
 unfold xa;rw[e,h];rfl
theorem IB {tl:List ER} {z:ER} {x:aY} (nd:(tl.map (·.r.n)).Nodup) (hz:z∈tl) (e:z.r.n=x.n):xa (tl.map (·.r)) x=(z.r.way=="free"):=by
 have nd':((tl.map (·.r)).map (·.n)).Nodup:=by rw[bq];show nd
 have hz':z.r∈tl.map (·.r):=bp.mpr ⟨z,hz,rfl⟩;have h1:((tl.map (·.r)).any fun y=>y.n==x.n)=true:=Bn.mpr ⟨z.r,hz',Bh.mpr e⟩;unfold xa;rw[h1];change((tl.map (·.r)).any fun y=>y.n==x.n&&y.way==("free":Str))=_;cases hw:z.r.way=="free" with
 | true=>show Bn.mpr ⟨z.r,hz',by rw[hw,Bool.and_true];show Bh.mpr e⟩
 | false=>
  rw[List.any_eq_false];intro y hy;rw[nH];rintro ⟨q1,q2⟩;have:y=z.r:=El nd' hy hz' ((Bi q1).trans e.symm);rw[this,hw] at q2;cases q2
theorem Nd (W:WW) {T U J:Addr} {eT eU:Nat} {tl ul:List ER} {Q:ax} {x0 x1 x2 x3 x4 x5 x6 x11 x12:Option AV} (hT:σ T=some (.dict eT (ag tl))) (hU:σ U=some (.dict eU (ag ul))) (nT:T≠J) (nU:U≠J) (hJ:∃ep xs,σ J=some (.dict ep xs)) (ndT:(tl.map (·.r.n)).Nodup) (ndU:(ul.map (·.r.n)).Nodup) (tt:∀x∈tl,Ba σ x):
 ∀(rs Uq:List ER) (ep:Nat) (x10:Option AV),(∀y∈rs,y∈ul)->Uq.length+rs.length<=100->
 (∀(x10:Option AV) (ep':Nat) (Ur:List ER),Ur.map (·.r)=dJ (xa (tl.map (·.r))) (Uq.map (·.r)) (rs.map (·.r))->(∀y∈Ur,y∈Uq\/y∈rs)->Q .next [x0,x1,x2,x3,x4,x5,x6,some (.ref T),some (.ref J),some (.ref U),x10,x11,x12] (σ.set J (.dict ep' (ag Ur))))->
 bU (jd) je (fun σ=>σ U=some (.dict eU (ag ul))) k Q (rs.map fun y=> .int y.r.n) [x0,x1,x2,x3,x4,x5,x6,some (.ref T),some (.ref J),some (.ref U),x10,x11,x12] (σ.set J (.dict ep (ag Uq))):=by
 show sn hJ fun e0 xs0 hJ0=>?_;have hT':∀o,(σ.set J o) T=some (.dict eT (ag tl)):=fun o=>(AS.UK nT).trans hT;have hU':∀o,(σ.set J o) U=some (.dict eU (ag ul)):=fun o=>(AS.UK nU).trans hU;have tt':∀o,∀x∈tl,(σ.set J o) x.a=some (.tup [.str x.r.way,.int x.r.one,.int x.r.two]):=fun o x hx=>(AS.UK (fun e=>by have:=tt x hx;unfold Ba at this;rw[e,hJ0] at this;cases this)).trans (tt x hx);intro rs;induction rs with
 | nil=>intro Uq ep x10 hm hl hq;show hq x10 ep Uq rfl fun y hy=> .inl hy
 | cons y rs ih=>
  intro Uq ep x10 hm hl hq;rw[fF] at hl;have hy:=hm y bJ;have gy:bl (ag ul) (.i y.r.n)=some (.ref y.a):=cR ndU hy;have en:(!(bl (ag tl) (.i y.r.n)).isSome)=!((tl.map (·.r)).any fun z=>z.n==y.r.n):=by rw[na,List.any_map];rfl
  have skip:xa (tl.map (·.r)) y.r=false->bU (jd) je (fun σ=>σ U=some (.dict eU (ag ul))) k Q (rs.map fun y=> .int y.r.n) [x0,x1,x2,x3,x4,x5,x6,some (.ref T),some (.ref J),some (.ref U),some (.int y.r.n),x11,x12] (σ.set J (.dict ep (ag Uq))):=fun hb=>by
   show ih Uq ep _ (fun z hz=>hm z (du _ hz)) zo fun x10 ep' Ur h1 h2=>hq x10 ep' Ur ?_ fun z hz=>(h2 z hz).imp id (du _);rw[h1];change _=dJ _ (if _ then _ else _) _;rw[hb];rfl
  have put:xa (tl.map (·.r)) y.r=true->∀ep',(σ.set J (.dict ep' (iH (ag Uq) (.i y.r.n) (.ref y.a)))) U=some (.dict eU (ag ul))/\bU (jd) je (fun σ=>σ U=some (.dict eU (ag ul))) k Q (rs.map fun y=> .int y.r.n) [x0,x1,x2,x3,x4,x5,x6,some (.ref T),some (.ref J),some (.ref U),some (.int y.r.n),x11,x12] (σ.set J (.dict ep' (iH (ag Uq) (.i y.r.n) (.ref y.a)))):=fun hb ep'=>by
   rw[<-iy];show⟨hU' _,ih (iI Uq y) ep' _ (fun z hz=>hm z (du _ hz)) (by have:=rU Uq y;lia) fun x10 ep' Ur h1 h2=>hq x10 ep' Ur ?_ fun z hz=>?_⟩
   . rw[h1,sW];change _=dJ _ (if _ then _ else _) _;rw[hb];rfl
   . rcases h2 z hz with h | h
     . rcases rT h with h | rfl
       . show .inl h
       . show .inr bJ
     . show .inr (du _ h)
  rw[dI];show py (x:= .i y.r.n) (hT' _) ?_;rw[en];cases hb:((tl.map (·.r)).any fun z=>z.n==y.r.n) with
  | false=>
   left;show a8 (x:= .i y.r.n) (hU' _) gy ?_;show bM (x:= .i y.r.n) AS.UJ zm fun ep'=>?_;have:=put (Gn rfl hb) ep';rw[<-AS.UL (σ:=σ) (x:= .dict ep (ag Uq))] at this;show this
  | true=>
   show ae (Bn.mp hb) fun z0 hz0 e0=>?_;show ae (bp.mp hz0) fun z hz hr2=>?_;subst hr2;have e1:z.r.n=y.r.n:=Bi e0;have lc:=IB ndT hz (x:=y.r) e1;left;show a8 (x:= .i y.r.n) (hT' _) (by rw[<-e1];show cR ndT hz) ?_;show f0 (i:=0) (.inl (tt' _ z hz)) rfl zd ?_;show Br.mk (fun hw=>?_) (fun hw=>?_)
   . show a8 (x:= .i y.r.n) (hU' _) gy ?_;show bM (x:= .i y.r.n) AS.UJ zu fun ep'=>?_;have:=put (lc.trans hw) ep';rw[<-AS.UL (σ:=σ) (x:= .dict ep (ag Uq))] at this;show this
   . show⟨hU' _,skip (lc.trans hw)⟩
theorem AS.out_mono {σ:AS} {N M:List Addr} (h:∀a∈M,a∈N):(σ.out N).Sub (σ.out M):=fun a o e=>by
 by_cases ha:a∈N
 . rw[AS.out_in ha] at e;cases e
 . rw[AS.out_not ha] at e;rw[AS.out_not fun hm=>ha (h a hm)];show e
structure LS where
 t:Addr
 R:Addr
 K:Addr
 p:Nat
 rows:List aY
 ks:Ks
 sec:nX
structure LS.At (x:LS) (β:AS):Prop where
 t:β x.t=some (.tup [.int x.p,.ref x.R,.ref x.K])
 r:bD β x.R x.rows
 k:eN β x.K (ey x.ks)
theorem LS.At.sub {x:LS} {β β':AS} (h:x.At β) (S:β.Sub β'):x.At β':=⟨S _ _ h.t,h.r.sub S,h.k.sub S⟩
structure LS.Ok (x:LS) (D:LU):Prop where
 at_:∀E,x.sec.At (D++10::E) x.p
 perm:x.sec.rows.Perm x.rows
 nd:(x.rows.map (·.n)).Nodup
 len:x.rows.length<=20
 kv:x.sec.kv=Gd (ey x.ks)
 ks:fE x.ks
 lt:x.p<D.length
 sm:∀y∈x.rows,y.n<99
theorem LS.Ok.grow {x:LS} {D tx:LU} (h:x.Ok D):x.Ok (D++10::tx):=⟨fun E=>by
 rw[u9];show h.at_ _,h.perm,h.nd,h.len,h.kv,h.ks,by rw[j7];have:=h.lt;lia,h.sm⟩
theorem xc {D tx E:LU} {p:Nat} (h1:D.length<=p) (h2:p<=D.length+1):∃ws,(∀c∈ws,qm c=true)/\((D++10::tx)++10::E).drop p=ws++(tx++10::E):=by
 by_cases e:p=D.length
 . show⟨[10],zd,?_⟩;rw[e,u9,Mr];rfl
 . have:p=D.length+1:=zo;show⟨[],aF,?_⟩;rw[this,u9,<-List.drop_drop,Mr];rfl
theorem QR {ks:Ks} (h:∀y∈ks,y.1≠iJ):∀y∈cP (dT ks),y.1≠"XRefStm":=by
 intro y hy e;rw[mR] at hy;show ae (bp.mp hy) fun z hz hr2=>?_;subst hr2;show ae (bp.mp hz) fun u hu hr2=>?_;subst hr2;rw[<-wY] at e;show h u hu (vf e)
theorem Ng {D:LU} {p:Nat} {Ut rows:List aY} {ks:Ks} (hk:fE ks) (hx:∀y∈ks,y.1≠iJ) (hr:∀x∈rows,bt ["used","free"] x) (ps:Ut.Perm rows) (nd:(rows.map (·.n)).Nodup) (hz:rows.length<=10) (h1:D.length<=p) (h2:p<=D.length+1) (E:LU):
 (nX.cl (dT ks) (Ut.map cf)).At ((D++10::bo Ut (ed ks))++10::E) p:=by
 show ae (xc (tx:=bo Ut (ed ks)) (E:=E) h1 h2) fun ws hw hd=>?_;show⟨w9 (fun x hx=>hr x (ps.subset hx)) ((ps.map _).nodup_iff.mpr nd) (by rw[ps.length_eq];show hz) hk hw hd,QR hx⟩
theorem Db {D:LU} {p:Nat} {Ut rows:List aY} {ways:List Str} {ks:Ks} (hk:fE ks) (hr:∀x∈rows,bt ways x) (hw:∀s∈ways,s∈lB) (ps:Ut.Perm rows) (nd:(rows.map (·.n)).Nodup) (hz:rows.length<=10) (h1:D.length<=p) (h2:p<=D.length+1) (E:LU):
 f7 ((D++10::a6 Ut (ed ks))++10::E) p (dq Ut ks) (Ut.map bY):=by
 show ae (xc (tx:=a6 Ut (ed ks)) (E:=E) h1 h2) fun ws hws hd=>?_;show yu (fun x hx=>hr x (ps.subset hx)) hw ((ps.map _).nodup_iff.mpr nd) (by rw[ps.length_eq];show hz) hk hws (show BE (10::E) from(by change qD 10=false;decide)) hd
theorem qj {c:aY->Bool}:∀{rs Uq:List aY},(dJ c Uq rs).length<=Uq.length+rs.length
 | [],_=>Nat.le_refl _
 | x::rs,Uq=>by
  change(dJ c (if c x then pY Uq x else Uq) rs).length<=_;have h:(if c x then pY Uq x else Uq).length<=Uq.length+1:=by
   split
   . delta pY
     split
     . rw[a9];lia
     . rw[j7,LY];lia
   . lia
  have:=qj (c:=c) (rs:=rs) (Uq:=if c x then pY Uq x else Uq);rw[fF];lia
theorem Em (W:WW) {P L Wd A T J K:Addr} {D:LU} {ks:Ks} {rows:List aY} {ways:List Str} {kind:Nat} {xs:List AV} {Q:ax} {b nw x9 x10 x11 x12:Option AV} (C:Cl σ P L Wd D A) (hA:(σ.out (cr P L Wd)) A=some (.list xs)) (hx:xs.length<=100) (hD:D.length<=100000)
 (hk:fE ks) (hXR:∀y∈ks,y.1≠iJ) (hK:eN (σ.out (cr P L Wd)) K (ey ks)) (hT:bD (σ.out (cr P L Wd)) T rows) (hJ:bD (σ.out (cr P L Wd)) J rows) (nd:(rows.map (·.n)).Nodup) (hr:∀x∈rows,bt ways x) (hw:∀s∈ways,s∈lB) (hc:kind≠1->∀x∈rows,bt ["used","free"] x) (hz:rows.length<=10)
 (hq:∀(UH:AS) (x:LS) (D':LU) (A':Addr) (l':aO),x.Ok D'->D.length<=x.p->(∃tx,D'=D++10::tx/\tx.length<=1300)->x.ks=ks->Cl UH P L Wd D' A'->(σ.out (cr P L Wd)).Sub (UH.out (cr P L Wd))->(UH.out (cr P L Wd)) A'=some (.list (.ref x.t::xs))->x.At (UH.out (cr P L Wd))->Q .next l' UH):
 (mN).tr (k+3) [some (.ref P),some (.ref Wd),b,nw,some (.int kind),some (.str (bd [])),some (.ref K),some (.ref T),some (.ref J),x9,x10,x11,x12] σ Q X:=by
 show Da W C hA hx hD hk hK hT hJ nd hr hw hc hz fun UH Ut p t A' l' ps h1 h2 C' S a1 a2=>?_;have sl:=gt (kind:=kind) (fun x hx=>hr x (ps.subset hx)) (by rw[ps.length_eq];show hz) hk;have lt:p<(D++10::fy kind Ut ks).length:=by
  rw[j7,fF]
  delta fy
  split
  . delta a6 Nb;simp;lia
  . delta bo;simp;lia
 by_cases h:kind=1
 . have e:fy kind Ut ks=a6 Ut (ed ks):=eM h;show hq UH ⟨t,J,K,p,rows,ks,.st (dq Ut ks) (Ut.map bY)⟩ _ A' l' ⟨fun E=>?_,?_,nd,by change rows.length<=20;lia,Nc hk,hk,lt,fun y hy=>tq (hr y hy).n zd⟩ h1 ⟨_,rfl,by lia⟩ rfl C' S a1 ⟨a2,hJ.sub S,hK.sub S⟩
   . rw[e];show Db hk hr hw ps nd hz h1 h2 E
   . change((Ut.map bY).map (·.row)).Perm rows;rw[Ma (fun x hx=>hr x (ps.subset hx)) hw];show ps
 . have e:fy kind Ut ks=bo Ut (ed ks):=dr h;show hq UH ⟨t,J,K,p,rows,ks,.cl (dT ks) (Ut.map cf)⟩ _ A' l' ⟨fun E=>?_,?_,nd,by change rows.length<=20;lia,mR ks,hk,lt,fun y hy=>tq (hr y hy).n zd⟩ h1 ⟨_,rfl,by lia⟩ rfl C' S a1 ⟨a2,hJ.sub S,hK.sub S⟩
   . rw[e];show Ng hk hXR (hc h) ps nd hz h1 h2 E
   . change((Ut.map cf).map (·.row)).Perm rows;rw[L9 (fun x hx=>hc h x (ps.subset hx))];show ps
theorem Ka:(Str.ofString "/Size 9 ")=bd (ed [(be,9)]):=zk
theorem QS:fE [(be,9)]:=⟨zs,fun y hy=>by rw[dK.mp hy];show .inl rfl,fun y hy=>by rw[dK.mp hy];change 9<10^6;decide,by decide⟩
theorem bD.out {N:List Addr} {T:Addr} {rows:List aY} (h:bD σ T rows) (hT:T∉N) (hN:∀n∈N,∀l,σ n≠some (.tup l)):bD (σ.out N) T rows:=by
 show aH h fun ep l h1 h2 h3=>?_;show⟨ep,l,(AS.out_not hT).trans h1,fun x hx=>(AS.out_not fun hm=>hN _ hm _ (h2 x hx)).trans (h2 x hx),h3⟩
theorem eN.put {K:Addr} {ks:Ks} {x:LU} {n:Nat} {Q':AS->Prop} {v:AV} (hK:eN σ K (ey ks)) (hz:ks.length<=1000) (hn:∀y∈ks,y.1≠x) (hv:v= .int n) (hq:∀UH,eN UH K (ey (ks++[(x,n)]))->Kp [K] σ UH->(∀N:List Addr,K∈N->UH.out N=σ.out N)->Q' UH):zJ k (.ref K) (.str (bd x)) v σ Q' X:=by
 show aw hK fun ep h=>?_;subst hv;show bM (x:= .s (bd x)) h (by delta ey;rw[a9,a9];lia) fun ep'=>?_;show hq _ ⟨ep',?_⟩ (Kp.set bJ) fun N hN=>AS.out_set hN;rw[AS.UJ,fe]
 . delta ey
   rw[pj,pj];rfl
 . intro p hp e;show ae (bp.mp hp) fun z hz hr2=>?_;subst hr2;show ae (bp.mp hz) fun u hu hr2=>?_;subst hr2;show hn u hu (vf (AK.s.inj e))
theorem IE (W:WW) {P L Wd A T J K:Addr} {D:LU} {ks:Ks} {tl:List ER} {ways:List Str} {kind eT eJ:Nat} {xs:List AV} {Q:ax} {b nw x9 x10 x11 x12:Option AV} (C:Cl σ P L Wd D A) (hA:(σ.out (J::K::cr P L Wd)) A=some (.list xs)) (hx:xs.length<=100) (hD:D.length<=90000)
 (hk:fE ks) (hXR:∀y∈ks,y.1≠iJ) (hkl:ks.length<=3) (hK:eN σ K (ey ks)) (nK:K∉cr P L Wd) (nJ:J∉cr P L Wd) (nJK:J≠K) (hT:(σ.out (J::K::cr P L Wd)) T=some (.dict eT (ag tl))) (tt:∀x∈tl,Ba (σ.out (J::K::cr P L Wd)) x) (hJ:σ J=some (.dict eJ (ag tl)))
 (nd:(tl.map (·.r.n)).Nodup) (hr:∀x∈tl,bt ways x.r) (hw:∀s∈ways,s∈lB) (hc:kind≠1->∀x∈tl,bt ["used","free"] x.r) (hz:tl.length<=5)
 (hq:∀(UH:AS) (x:LS) (D':LU) (A':Addr) (l':aO),x.Ok D'->D.length<=x.p->(∃tx,D'=D++10::tx/\tx.length<=1300)->(x.ks=ks\/∃n,x.ks=ks++[(iJ,n)])->Cl UH P L Wd D' A'->(σ.out (J::K::cr P L Wd)).Sub (UH.out (cr P L Wd))->(UH.out (cr P L Wd)) A'=some (.list (.ref x.t::xs))->x.At (UH.out (cr P L Wd))->Q .next l' UH):
 (uk).tr (k+3) [some (.ref P),some (.ref Wd),b,nw,some (.int kind),some (.str (bd [])),some (.ref K),some (.ref T),some (.ref J),x9,x10,x11,x12] σ Q X:=by
 have sub0:∀τ:AS,(τ.out (J::K::cr P L Wd)).Sub (τ.out (cr P L Wd)):=fun τ=>AS.out_mono fun a ha=>du _ (du _ ha);have hr':∀x∈tl.map (·.r),bt ways x:=fun x hx=>by obtain⟨y,hy,rfl⟩:=bp.mp hx;show hr y hy
 have nd':((tl.map (·.r)).map (·.n)).Nodup:=by rw[bq];show nd
 show Br.mk (fun hv=>?_) (fun hv=>?_)
 . have h2:kind=2:=by have:=GH hv;lia
   subst h2;have nJ2:J∉[P,L]:=fun h=>nJ (IY [Wd] h);have nK2:K∉[P,L]:=fun h=>nK (IY [Wd] h);have pK:P∉[K]:=fun h=>nK (by rw[dK] at h;rw[<-h];simp);have lK:L∉[K]:=fun h=>nK (by rw[dK] at h;rw[<-h];simp);have wK:Wd∉[K]:=fun h=>nK (by rw[dK] at h;rw[<-h];simp);have pJ:P∉[J]:=fun h=>nJ (by rw[dK] at h;rw[<-h];simp);have lJ:L∉[J]:=fun h=>nJ (by rw[dK] at h;rw[<-h];simp);have wJ:Wd∉[J]:=fun h=>nJ (by rw[dK] at h;rw[<-h];simp);show⟨zl,?_⟩;intro I hI;have T1:=AS.Sub.set (o:= .list [.str "packed",.str "used",.str "packed"]) hI;have C1:=C.sub T1;have S1:=(Kp.sub (N:=J::K::cr P L Wd) T1).out;have hJ1:=T1 _ _ hJ;show aw hK fun eK hK0=>?_;have hK1:=T1 _ _ hK0;have hI1:(σ.set I (.list [.str "packed",.str "used",.str "packed"])) I=some (.list ((["packed","used","packed"]:List Str).map .str)):=AS.UJ;generalize σ.set I (.list [.str "packed",.str "used",.str "packed"])=σ1 at*;show Fb (ways:=["packed","used","packed"]) W C1.pen hI1 zd zd fun U σ2 lrows uf p2 K2 hU nd2 hr2 hz2=>?_;have C2:=C1.draw p2 K2;have S2:=S1.trans (K2.mono (M:=J::K::cr P L Wd) fun x hx=>du _ (du _ (IY [Wd] hx))).out;have hJ2:=K2 _ _ nJ2 hJ1;have hK2:eN σ2 K (ey ks):=⟨eK,K2 _ _ nK2 hK1⟩;have nU:U∉J::K::cr P L Wd:=fun h=>(all_cons (P:=fun x=>U≠x) (fun e=>by first | show uf _ _ hJ1 e | show uf _ _ hJ1 e.symm) (all_cons (fun e=>by first | show uf _ _ hK1 e | show uf _ _ hK1 e.symm) fun x hx e=>by
    rw[<-e] at hx;cases q:σ1 U with
    | none=>show C1.live U hx q
    | some o=>show uf _ _ q rfl)) U h rfl
   have hU2:bD (σ2.out (J::K::cr P L Wd)) U lrows:=(hU.sub AS.out_sub).out nU (all_cons (fun l e=>by rw[hJ2] at e;cases e) (all_cons (fun l e=>by obtain⟨_,q⟩:=hK2;rw[q] at e;cases e) (eg p2.ex fun ns c v g1 g2 _=>all_cons (fun l e=>by rw[g1] at e;cases e) (all_cons (fun l e=>by rw[g2] at e;cases e) (all_cons (fun l e=>by rw[C2.w] at e;cases e) aF)))));show ak (i:=0) C2.w rfl zd ?_;show am zo ?_;rw[<-wY];show hK2.put (x:=iJ) (n:=D.length+1) zo hXR rfl fun σ3 hK3 K3 o3=>?_;have C3:=C2.kp K3 pK lK wK;have hJ3:=K3 _ _ (by simpa using nJK) hJ2;have oo3:=o3 (J::K::cr P L Wd) zs;rw[<-oo3] at S2 hU2;show ak (i:=0) C3.w rfl zd ?_;show⟨by change D.length+1<=_;lia,?_⟩;rw[Ka];show sg W (hU2.sub AS.out_sub) nd2 hr2 zd zo (Bc QS.names) zd fun lsrt ps2=>?_;have sl:=gt (kind:=1) (fun x hx=>hr2 x (ps2.subset hx)) (by rw[ps2.length_eq];lia) QS;rw[show fy 1 lsrt [(be,9)]=a6 lsrt (ed [(be,9)]) from rfl] at sl;show⟨by simp;lia,?_⟩;show lP (i:=0) C3.w zl zl ?_;have e1:D++[10]++a6 lsrt (ed [(be,9)])=D++10::a6 lsrt (ed [(be,9)]):=zs;rw[e1];have C4:=C3.put (D':=D++10::a6 lsrt (ed [(be,9)])) (A':=A);have oo4:(σ3.set Wd (.list [.bytes (D++10::a6 lsrt (ed [(be,9)])),.ref A])).out (J::K::cr P L Wd)=σ3.out (J::K::cr P L Wd):=AS.out_set zs;have hJ4:(σ3.set Wd (.list [.bytes (D++10::a6 lsrt (ed [(be,9)])),.ref A])) J=some (.dict eJ (ag tl)):=(AS.UK (fun e=>wJ (by rw[e];show bJ))).trans hJ3;have hK4:eN (σ3.set Wd (.list [.bytes (D++10::a6 lsrt (ed [(be,9)])),.ref A])) K (ey (ks++[(iJ,D.length+1)])):=by
    show aw hK3 fun ep h=>?_;show⟨ep,(AS.UK (fun e=>wK (by rw[e];show bJ))).trans h⟩
   rw[<-oo4] at S2 hU2;change CB.tr _ _ _ (σ3.set Wd (.list [.bytes (D++10::a6 lsrt (ed [(be,9)])),.ref A])) _ _;generalize σ3.set Wd (.list [.bytes (D++10::a6 lsrt (ed [(be,9)])),.ref A])=σ4 at*;show aH hU2 fun eU ul u1 u2 hr4=>?_;subst hr4;show eQ.of cQ (AS.out_sub _ _ u1) ?_;have ek:((ag ul).map fun p:AK×AV=>p.1.av)=ul.map fun y=> .int y.r.n:=by rw[bq];rfl
   have ndU:(ul.map (·.r.n)).Nodup:=by rw[bq] at nd2;show nd2
   have ulz:ul.length<=4:=by rw[a9] at hz2;show hz2
   have nTJ:T≠J:=fun e=>by rw[e,AS.out_in bJ] at hT;cases hT
   rw[ek];have go:=fun Q h x1=>Nd (W:=W) (k:=k+3) (Q:=Q) (T:=T) (U:=U) (J:=J) (x0:=some (.ref P)) (x1:=some (.ref Wd)) (x2:=b) (x3:=nw) (x4:=some (.int 2)) (x5:=some (.str (bd []))) (x6:=some (.ref K)) (x11:=x11) (x12:=x12) (AS.out_sub _ _ (S2 _ _ hT)) (AS.out_sub _ _ u1) nTJ (fun e=>nU (by rw[e];show bJ)) ⟨_,_,hJ4⟩ nd ndU (fun x hx=>AS.out_sub _ _ (S2 _ _ (tt x hx))) ul tl eJ x1 (fun _ h=>h) zo h;rw[AS.set_id hJ4] at go;show go _ (fun x10 ep' Ur g1 g2=>?_) x10;have C5:=C4.kp (Kp.set (o:= .dict ep' (ag Ur)) (a:=J) bJ) pJ lJ wJ;have oo5:(σ4.set J (.dict ep' (ag Ur))).out (J::K::cr P L Wd)=σ4.out (J::K::cr P L Wd):=AS.out_set zs;have hJ5:(σ4.set J (.dict ep' (ag Ur))) J=some (.dict ep' (ag Ur)):=AS.UJ;have hK5:eN (σ4.set J (.dict ep' (ag Ur))) K (ey (ks++[(iJ,D.length+1)])):=by
    show aw hK4 fun ep h=>?_;show⟨ep,(AS.UK (ez nJK)).trans h⟩
   rw[<-oo5] at S2 u1 u2;generalize σ4.set J (.dict ep' (ag Ur))=σ5 at*;have hk':fE (ks++[(iJ,D.length+1)]):=by
    show⟨?_,fun y hy=>?_,fun y hy=>?_,by rw[j7,LY];lia⟩
    . rw[pj,Ey];show⟨hk.nd,zs,fun a ha c hc e=>?_⟩;show ae (bp.mp ha) fun z hz hr2=>?_;subst hr2;rw[List.map_singleton,dK] at hc;show hXR z hz (e.trans hc)
    . rcases eL.mp hy with hy | hy
      . show hk.names y hy
      . rw[dK.mp hy];show .inr (.inr (.inr rfl))
    . rcases eL.mp hy with hy | hy
      . show hk.vals y hy
      . rw[dK.mp hy];change D.length+1<10^6;lia
   have jl:(Ur.map (·.r)).length<=20:=by
    rw[g1];have:=qj (c:=xa (tl.map (·.r))) (rs:=ul.map (·.r)) (Uq:=tl.map (·.r));rw[a9,a9] at this;lia
   show Da W C5 (sub0 _ _ _ (S2 _ _ hA)) hx (by rw[j7,fF];lia) hk' (by obtain⟨ep,h⟩:=hK5;show⟨ep,(AS.out_not nK).trans h⟩) ⟨eT,tl,sub0 _ _ _ (S2 _ _ hT),fun x hx=>sub0 _ _ _ (S2 _ _ (tt x hx)),rfl⟩
    ⟨ep',Ur,(AS.out_not nJ).trans hJ5,fun x hx=>sub0 _ _ _ ((g2 x hx).elim (fun h=>S2 _ _ (tt x h)) fun h=>u2 x h),rfl⟩ nd' hr' hw (fun h x hx=>by obtain⟨y,hy,rfl⟩:=bp.mp hx;show hc h y hy) zm
    fun UH Ut p t A' l' ps h1 h2 C' S a1 a2=>?_
   have hrT:∀x∈tl.map (·.r),bt ["used","free"] x:=fun x hx=>by obtain⟨y,hy,rfl⟩:=bp.mp hx;show hc zd y hy
   have e2:fy 2 Ut (ks++[(iJ,D.length+1)])=bo Ut (ed (ks++[(iJ,D.length+1)])):=rfl;have sl2:=gt (kind:=2) (fun x hx=>hr' x (ps.subset hx)) (by rw[ps.length_eq,a9];lia) hk';rw[e2] at C' sl2;have nd3:((ul.map (·.r)).map (·.n)).Nodup:=nd2;show hq UH ⟨t,J,K,p,Ur.map (·.r),ks++[(iJ,D.length+1)],.hy (dT (ks++[(iJ,D.length+1)])) (Ut.map cf) (az (D.length+1)) (dq lsrt [(be,9)]) (lsrt.map bY)⟩ _ A' l' ⟨fun E=>⟨?_,?_,?_⟩,?_,?_,jl,mR _,hk',?_,?_⟩ ?_ ⟨a6 lsrt (ed [(be,9)])++10::bo Ut (ed (ks++[(iJ,D.length+1)])),?_,?_⟩ (.inr ⟨_,rfl⟩) C' (S2.trans ((sub0 _).trans S)) a1
    ⟨a2,bD.sub ⟨ep',Ur,(AS.out_not nJ).trans hJ5,fun x hx=>sub0 _ _ _ ((g2 x hx).elim (fun h=>S2 _ _ (tt x h)) fun h=>u2 x h),rfl⟩ S,eN.sub (by obtain⟨ep,h⟩:=hK5;show⟨ep,(AS.out_not nK).trans h⟩) S⟩
   . show ae (xc (D:=D++10::a6 lsrt (ed [(be,9)])) (tx:=bo Ut (ed (ks++[(iJ,D.length+1)]))) (E:=E) h1 h2) fun ws hws hd=>?_;show w9 (fun x hx=>hrT x (ps.subset hx)) ((ps.map _).nodup_iff.mpr nd') (by rw[ps.length_eq,a9];lia) hk' hws hd
   . rw[mR]
     delta Gd ey
     rw[pj,pj,<-wY];show List.mem_append_right _ bJ
   . change f7 _ (ay 0 (az (D.length+1))) _ _;rw[bc];have:=Db (D:=D) (p:=D.length+1) QS hr2 zd ps2 nd3 zm zo zo (bo Ut (ed (ks++[(iJ,D.length+1)]))++10::E);have e5:(D++10::a6 lsrt (ed [(be,9)])++10::bo Ut (ed (ks++[(iJ,D.length+1)])))++10::E=(D++10::a6 lsrt (ed [(be,9)]))++10::(bo Ut (ed (ks++[(iJ,D.length+1)]))++10::E):=u9 _ _ _;rw[e5];show this
   . change(mz ((lsrt.map bY).map (·.row)) ((lsrt.map bY).map (·.row)) ((Ut.map cf).map (·.row))).Perm (Ur.map (·.r));rw[Ma (fun x hx=>hr2 x (ps2.subset hx)) zd,L9 (fun x hx=>hrT x (ps.subset hx)),g1];show Gm ps2 ps nd3 nd'
   . change((Ur.map (·.r)).map (·.n)).Nodup;rw[g1];show j4 nd'
   . change p<_;rw[j7,fF,j7,fF];rw[j7,fF] at h2
     delta bo
     simp;lia
   . intro y hy;show ae (bp.mp hy) fun z hz hr2=>?_;subst hr2;rcases g2 z hz with h | h
     . show tq (hr z h).n zd
     . show tq (hr2 z.r (bp.mpr ⟨z,h,rfl⟩)).n zd
   . change D.length<=p;rw[j7] at h1;lia
   . rw[u9];rfl
   . rewrite [j7,fF];lia
 . have h2:kind≠2:=fun e=>by subst e;show absurd hv zd
   show Em W C (sub0 _ _ _ hA) hx zo hk hXR (by obtain⟨ep,h⟩:=hK;show⟨ep,(AS.out_not nK).trans h⟩) ⟨eT,tl,sub0 _ _ _ hT,fun x hx=>sub0 _ _ _ (tt x hx),rfl⟩ ⟨eJ,tl,(AS.out_not nJ).trans hJ,fun x hx=>sub0 _ _ _ (tt x hx),rfl⟩ nd' hr' hw
    (fun h x hx=>by obtain⟨y,hy,rfl⟩:=bp.mp hx;show hc h y hy) zm fun UH x D' A' l' q1 q2 q3 q4 q5 q6 q7 q8=>hq UH x D' A' l' q1 q2 q3 (.inl q4) q5 ((sub0 _).trans q6) q7 q8
theorem fE.app {ks:Ks} {x:LU} {n:Nat} (hk:fE ks) (hx:∀y∈ks,y.1≠x) (h1:x=be\/x=bk\/x=dH\/x=iJ) (hn:n<10^6) (hl:ks.length<=3):fE (ks++[(x,n)]):=by
 show⟨?_,fun y hy=>?_,fun y hy=>?_,by rw[j7,LY];lia⟩
 . rw[pj,Ey];show⟨hk.nd,zs,fun a ha c hc e=>?_⟩;show ae (bp.mp ha) fun z hz hr2=>?_;subst hr2;rw[List.map_singleton,dK] at hc;show hx z hz (e.trans hc)
 . rcases eL.mp hy with hy | hy
   . show hk.names y hy
   . rw[dK.mp hy];show h1
 . rcases eL.mp hy with hy | hy
   . show hk.vals y hy
   . rw[dK.mp hy];show hn
theorem AS.out_fresh {σ:AS} {N:List Addr} {a:Addr} {o:AO} (h:σ a=none):(σ.out N).Sub ((σ.set a o).out (a::N)):=fun b x e=>by
 by_cases hb:b∈N
 . rw[AS.out_in hb] at e;cases e
 . rw[AS.out_not hb] at e;have ne:b≠a:=fun q=>by rw[q,h] at e;cases e
   rw[AS.out_not (by simp [ne,hb]),AS.UK ne];show e
abbrev IF (σ:AS) (N:List Addr) (P L Wd:Addr) (D:LU) (xs:List AV) (ok:Ks->Prop) (Q:AS->Prop):Prop:=
 ∀(UH:AS) (x:LS) (D':LU) (A':Addr),x.Ok D'->D.length<=x.p->(∃tx,D'=D++10::tx/\tx.length<=1300)->ok x.ks->Cl UH P L Wd D' A'->(σ.out N).Sub (UH.out (cr P L Wd))->(UH.out (cr P L Wd)) A'=some (.list (.ref x.t::xs))->x.At (UH.out (cr P L Wd))->Q UH
theorem IG (W:WW) {P L Wd A K:Addr} {D:LU} {ks:Ks} {kind:Nat} {xs:List AV} {Q:ax} {b nw:Option AV} (C:Cl σ P L Wd D A) (hA:(σ.out (K::cr P L Wd)) A=some (.list xs)) (hx:xs.length<=100) (hD:D.length<=90000)
 (hk:fE ks) (hXR:∀y∈ks,y.1≠iJ) (hkl:ks.length<=3) (hK:eN σ K (ey ks)) (nK:K∉cr P L Wd)
 (hq:IF σ (K::cr P L Wd) P L Wd D xs (fun s=>s=ks\/∃n,s=ks++[(iJ,n)]) fun UH=>∀l',Q .next l' UH):
 (jf).tr (k+3) [some (.ref P),some (.ref Wd),b,nw,some (.int kind),some (.str (bd [])),some (.ref K),none,none,none,none,none,none] σ Q X:=by
 have main:∀(ways:List Str) (I:Addr) (σ1:AS),σ.Sub σ1->σ1 I=some (.list (ways.map .str))->ways≠[]->(∀s∈ways,s∈lB)->ways.length<=5->(kind≠1->ways=(["used","free"]:List Str))->
  aa (k+3) (.ref 1834) [.ref P,.ref I] σ1 (fun v UH=>(um).tr (k+3) [some (.ref P),some (.ref Wd),b,nw,some (.int kind),some (.str (bd [])),some (.ref K),some v,none,none,none,none,none] UH Q X) X:=by
  intro ways I σ1 T1 hI w0 w3 wl wk;have C1:=C.sub T1;have S1:=(Kp.sub (N:=K::cr P L Wd) T1).out;show aw hK fun eK hK0=>?_;have hK1:=T1 _ _ hK0;have nK2:K∉[P,L]:=fun h=>nK (IY [Wd] h);show Fb W C1.pen hI w0 zo fun T σ2 rows tf p2 K2 hT nd hr hz=>?_;have C2:=C1.draw p2 K2;have S2:=S1.trans (K2.mono (M:=K::cr P L Wd) fun x hx=>du _ (IY [Wd] hx)).out;have hK2:=K2 _ _ nK2 hK1;have nT:T∉K::cr P L Wd:=fun h=>(all_cons (P:=fun x=>T≠x) (fun e=>by first | show tf _ _ hK1 e | show tf _ _ hK1 e.symm) fun x hx e=>by
   rw[<-e] at hx;cases q:σ1 T with
   | none=>show C1.live T hx q
   | some o=>show tf _ _ q rfl) T h rfl
  have hT2:bD (σ2.out (K::cr P L Wd)) T rows:=(hT.sub AS.out_sub).out nT (all_cons (fun l e=>by rw[hK2] at e;cases e) (eg p2.ex fun ns c v g1 g2 _=>all_cons (fun l e=>by rw[g1] at e;cases e) (all_cons (fun l e=>by rw[g2] at e;cases e) (all_cons (fun l e=>by rw[C2.w] at e;cases e) aF))));show aH hT2 fun eT tl t1 t2 hr4=>?_;subst hr4;rw[a9] at hz;show qC (AS.out_sub _ _ t1) zm fun J eJ hJ=>?_;have T3:=AS.Sub.set (o:= .dict eJ (ag tl)) hJ;have F3:(σ2.out (K::cr P L Wd)).Sub ((σ2.set J (.dict eJ (ag tl))).out (J::K::cr P L Wd)):=AS.out_fresh hJ;show IE (kind:=kind) W (C2.sub T3) (F3 _ _ (S2 _ _ hA)) hx hD hk hXR hkl ⟨eK,T3 _ _ hK2⟩ nK (C2.new hJ) (fun e=>by rw[e,hK2] at hJ;cases hJ) (F3 _ _ t1) (fun x hx=>F3 _ _ (t2 x hx)) AS.UJ (by rw[bq] at nd;show nd) (fun x hx=>hr _ (bp.mpr ⟨x,hx,rfl⟩)) w3
   (fun h x hx=>by have:=hr _ (bp.mpr ⟨x,hx,rfl⟩);rw[wk h] at this;show this) zo fun UH x D' A' l' q1 q2 q3 q4 q5 q6 q7 q8=>hq UH x D' A' q1 q2 q3 q4 q5 (S2.trans (F3.trans q6)) q7 q8 l'
 show Br.mk (fun hv=>?_) (fun hv=>?_)
 . show⟨zl,?_⟩;intro I hI;show main ["used","free","packed"] I _ (AS.Sub.set hI) AS.UJ zd zd zd fun h=>absurd (GH hv) zo
 . show⟨zl,?_⟩;intro I hI;show main ["used","free"] I _ (AS.Sub.set hI) AS.UJ zd zd zd fun _=>rfl
theorem Nh (W:WW) {P L Wd A K:Addr} {D:LU} {ks:Ks} {kind:Nat} {xs:List AV} {Q:ax} {b:Option AV} {nw:Bool} (C:Cl σ P L Wd D A) (hA:(σ.out (K::cr P L Wd)) A=some (.list xs)) (hx:xs.length<=100) (hD:D.length<=90000)
 (hk:fE ks) (hXR:∀y∈ks,y.1≠iJ/\y.1≠dH) (hkl:ks.length<=2) (hK:eN σ K (ey ks)) (nK:K∉cr P L Wd)
 (hq:IF σ (K::cr P L Wd) P L Wd D xs (fun s=>∃mk xr:Ks,s=ks++(mk++xr)/\(mk=[]/\nw=false\/∃m,mk=[(dH,m)])/\(xr=[]\/∃n,xr=[(iJ,n)])) fun UH=>∀l',Q .next l' UH):
 (mO).tr (k+3) [some (.ref P),some (.ref Wd),b,some (.bool nw),some (.int kind),some (.str (bd [])),some (.ref K),none,none,none,none,none,none] σ Q X:=by
 have nK2:K∉[P,L]:=fun h=>nK (IY [Wd] h);have pK:P∉[K]:=fun h=>nK (by rw[dK] at h;rw[<-h];simp);have lK:L∉[K]:=fun h=>nK (by rw[dK] at h;rw[<-h];simp);have wK:Wd∉[K]:=fun h=>nK (by rw[dK] at h;rw[<-h];simp);have keep:∀UH:AS,Kp [P,L] σ UH->(σ.out (K::cr P L Wd)).Sub (UH.out (K::cr P L Wd)):=fun UH K2=>(K2.mono fun x hx=>du _ (IY [Wd] hx)).out;have lm:∀UH:AS,Kp [P,L] σ UH->eN UH K (ey ks):=fun UH K2=>by obtain⟨ep,h⟩:=hK;show⟨ep,K2 _ _ nK2 h⟩
 have no:∀σ1:AS,nw=false->Cl σ1 P L Wd D A->Kp [P,L] σ σ1->(jf).tr (k+3) [some (.ref P),some (.ref Wd),b,some (.bool nw),some (.int kind),some (.str (bd [])),some (.ref K),none,none,none,none,none,none] σ1 Q X:=fun σ1 hn C1 K1=>
  IG W C1 (keep _ K1 _ _ hA) hx hD hk (fun y hy=>(hXR y hy).1) zo (lm _ K1) nK fun UH x D' A' q1 q2 q3 q4 q5 q6 q7 q8=>hq UH x D' A' q1 q2 q3 (by
   rcases q4 with e | ⟨n,e⟩
   . show⟨[],[],by rw[e];simp,.inl ⟨rfl,hn⟩,.inl rfl⟩
   . show⟨[],[(iJ,n)],by rw[e];simp,.inl ⟨rfl,hn⟩,.inr ⟨n,rfl⟩⟩) q5 ((keep _ K1).trans q6) q7 q8
 have yes:∀σ1:AS,Cl σ1 P L Wd D A->Kp [P,L] σ σ1->aa (k+3) (.ref 1820) [.ref P,.int 50] σ1 (fun v σ2=>zJ (k+3) (.ref K) (.str "Mark") v σ2 (fun σ3=>(jf).tr (k+3) [some (.ref P),some (.ref Wd),b,some (.bool nw),some (.int kind),some (.str (bd [])),some (.ref K),none,none,none,none,none,none] σ3 Q X) X) X:=fun σ1 C1 K1=>by
  show tj W 50 C1.pen zd zd fun m σ2 hm p2 K2=>?_;have C2:=C1.draw p2 K2;have K12:=K1.trans K2;rw[<-si];show(lm _ K12).put (x:=dH) (n:=m) zo (fun y hy=>(hXR y hy).2) rfl fun σ3 hK3 K3 o3=>?_;have C3:=C2.kp K3 pK lK wK;have oo3:=o3 (K::cr P L Wd) zs;show IG W C3 (by rw[oo3];show keep _ K12 _ _ hA) hx hD (hk.app (fun y hy=>(hXR y hy).2) (.inr (.inr (.inl rfl))) zo zo) (fun y hy=>?_) (by rw[j7,LY];lia) hK3 nK fun UH x D' A' q1 q2 q3 q4 q5 q6 q7 q8=>hq UH x D' A' q1 q2 q3 (by
   rcases q4 with e | ⟨n,e⟩
   . show⟨[(dH,m)],[],by rw[e];simp,.inr ⟨m,rfl⟩,.inl rfl⟩
   . show⟨[(dH,m)],[(iJ,n)],by rw[e];simp,.inr ⟨m,rfl⟩,.inr ⟨n,rfl⟩⟩) q5 (by rw[oo3] at q6;show(keep _ K12).trans q6) q7 q8
  rcases eL.mp hy with hy | hy
  . show(hXR y hy).1
  . rw[dK.mp hy];change dH≠iJ;decide
 cases nw with
 | true=>
  left;show yes σ C Kp.rfl
 | false=>
  left;show tj W 2 C.pen zd zd fun r σ1 hr p1 K1=>?_;have C1:=C.draw p1 K1;show Br.mk (fun hv=>?_) (fun hv=>?_)
  . show yes σ1 C1 K1
  . show no σ1 rfl C1 K1
noncomputable def Q6:Option Nat->AV
 | none=> .none
 | some p=> .int p
noncomputable def Q7:Option Nat->Ks
 | none=>[]
 | some p=>[(bk,p)]
def jh (bf:Option Nat) (nw:Bool) (s:Ks):Prop:=∃mk xr:Ks,s=((be,9)::Q7 bf)++(mk++xr)/\(mk=[]/\nw=false\/∃m,mk=[(dH,m)])/\(xr=[]\/∃n,xr=[(iJ,n)])
theorem En (W:WW) {P L Wd A:Addr} {D:LU} {xs:List AV} {bf:Option Nat} {nw:Bool} (C:Cl σ P L Wd D A) (hA:(σ.out (cr P L Wd)) A=some (.list xs)) (hx:xs.length<=100) (hD:D.length<=90000) (hb:∀p,bf=some p->p<10^6)
 (hq:IF σ (cr P L Wd) P L Wd D xs (jh bf nw) (Q .none)):aa (k+4) (.ref 1860) [.ref P,.ref Wd,Q6 bf,.bool nw] σ Q X:=by
 show(af W wV (Ec W) rfl zd ?_).call;show tj W 3 C.pen zd zd fun kind σ1 hr1 p1 K1=>?_;have C1:=C.draw p1 K1;have S1:=C.step K1;intro K ep hK;have nK:=C1.new hK;have T2:=AS.Sub.set (o:= .dict ep [(.s "Size",.int 9)]) hK;have C2:=C1.sub T2;have F2:(σ1.out (cr P L Wd)).Sub ((σ1.set K (.dict ep [(.s "Size",.int 9)])).out (K::cr P L Wd)):=AS.out_fresh hK;have hK2:eN (σ1.set K (.dict ep [(.s "Size",.int 9)])) K (ey [(be,9)]):=⟨ep,AS.UJ.trans (by rw[<-vg];rfl)⟩;generalize σ1.set K (.dict ep [(.s "Size",.int 9)])=σ2 at*;show⟨zl,?_⟩;intro U hU;have T3:=AS.Sub.set (o:= .tup [.int kind,.str "",.ref K]) hU;have C3:=C2.sub T3;have F3:=(Kp.sub (N:=K::cr P L Wd) T3).out;have hU3:(σ2.set U (.tup [.int kind,.str "",.ref K])) U=some (.tup [.int kind,.str "",.ref K]):=AS.UJ;have hK3:eN (σ2.set U (.tup [.int kind,.str "",.ref K])) K (ey [(be,9)]):=hK2.sub T3;generalize σ2.set U (.tup [.int kind,.str "",.ref K])=σ3 at*;show aD hU3 ⟨rfl,?_⟩;have SS:=S1.trans (F2.trans F3);rw[L8];have fin:∀(ks:Ks) (σ4:AS),ks=(be,9)::Q7 bf->fE ks->(∀y∈ks,y.1≠iJ/\y.1≠dH)->ks.length<=2->Cl σ4 P L Wd D A->(σ.out (cr P L Wd)).Sub (σ4.out (K::cr P L Wd))->eN σ4 K (ey ks)->
  (mO).tr (k+3) [some (.ref P),some (.ref Wd),some (Q6 bf),some (.bool nw),some (.int kind),some (.str (bd [])),some (.ref K),none,none,none,none,none,none] σ4 (fun f _ UH=>Q (match f with | .ret v=>v | _=> .none) UH) fun _ _=>False:=fun ks σ4 e hk hn hl C4 S4 hK4=>
  Nh W C4 (S4 _ _ hA) hx hD hk hn hl hK4 nK fun UH x D' A' q1 q2 q3 q4 q5 q6 q7 q8 l'=>hq UH x D' A' q1 q2 q3 (by subst e;show q4) q5 (S4.trans q6) q7 q8
 cases hbf:bf with
 | none=>
  rw[hbf] at fin;show Br.neg rfl ?_;show fin [(be,9)] σ3 rfl QS (fun y hy=>by rw[dK.mp hy];change be≠iJ/\be≠dH;decide) zd C3 SS hK3
 | some p=>
  rw[hbf] at fin;left;rw[<-jg];have nP:∀y∈([(be,9)]:Ks),y.1≠bk:=fun y hy=>by rw[dK.mp hy];change be≠bk;decide
  show hK3.put (x:=bk) (n:=p) zd nP rfl fun σ4 hK4 K4 o4=>?_;show fin [(be,9),(bk,p)] σ4 rfl (QS.app nP (.inr (.inl rfl)) (hb p hbf) zd) (fun y hy=>?_) (Nat.le_refl 2) (C3.kp K4 ?_ ?_ ?_) (by rw[o4 _ zs];show SS) hK4
  . rcases mV hy with rfl | hy
    . change be≠iJ/\be≠dH;decide
    . rw[dK.mp hy];change bk≠iJ/\bk≠dH;decide
  all_goals (intro h;rw[dK] at h;show nK (by rw[<-h];simp))
theorem Fe {g:Fz} {s:Shared} {Up:List Env} (r:RS Ω.p Ω.w g σ s) (O:eD Ω.b Up g) {p:Addr} {xs:List AV} (e:tu Ω σ p (.list xs)):∃vs n,IsL s.heap p vs n/\vs.toList.map er=xs:=by
 rcases e with e | ⟨ob,hb,vs,n,rfl,he⟩
 . obtain⟨hg,ob,ho,vs,n,rfl,he⟩:=r.own p _ e;show⟨vs,n,ho,he⟩
 . show⟨vs,n,r.keep _ _ (O.keeps _ _ hb),he⟩
theorem Dc {p:Addr} {n:Nat} {xs:List AV} (h:tu Ω σ p (.list xs)) (hz:xs.length<=1000000) (hq:∀r,σ r=none->Q (.ref r) (σ.set r (.list (xs.take n)))):ik k (.ref p) .none (.int n) .none σ Q X:=by
 show⟨"list",_,⟨fun Up g s u O rs e=>?_⟩,list_getitem_lookup,fun u l hh t sl A Up g s hu hb hc hd hH O rs hs=>?_⟩
 . rw[ah e];show bQ (Fe rs O h) fun vs n hl he=>?_;show⟨(aS _ hl rfl),fun b q=>by cases q;show(aS _ hl rfl)⟩
 rw[ah hu];show bQ (Fe rs O h) fun vs nn hvs hve=>?_;have hl:=aj hve;rw[dU hb,dU hd] at hs;show wpAny_getItem_list_slice (lo:=none) (hi:=some (n:Int)) (st:=none) hvs.isList hs .none (lS _ hc) .none zd ?_ (by rw[hl,mU];lia);show⟨_,rs.alloc rfl (dW (xs:=xs.take n) ?_),hq _ rs.free⟩;rw[kms_pick_eq];change(kms_pick vs.toList none (some (n:Int))).map er=_
 delta kms_pick kms_lo kms_hi
 dsimp only;rw[List.drop_zero,dr zo,Nat.sub_zero,Int.toNat_natCast,List.map_take,hve];have e:vs.toList.length=xs.length:=by rw[<-hve,a9]
 rw[e,kmk_take_min]
theorem Go (W:WW) {p:Addr} {ns:List Int} (h:tu Ω σ p (.list (ns.map .int))) (hz:ns.length<=1000) (hq:∀(P L:Addr) (UH:AS),σ.Sub UH->gS UH P L->Q (.ref P) UH):aa (k+1) (.ref 1813) [.ref p] σ Q X:=by
 show(af W zf (Ge W) rfl zd ?_).call;show Dc (n:=63) h zm fun R hR=>?_;have T1:=AS.Sub.set (o:= .list ((ns.map AV.int).take 63)) hR;rw[<-List.map_take] at T1⊢;have hl:(ns.take 63).length<=63:=by rw[List.length_take];lia
 show iO.of cw AS.UJ zm ?_;generalize ns.take 63=ms at*;have hR1:(σ.set R (.list (ms.map .int))) R=some (.list (ms.map .int)):=AS.UJ;generalize σ.set R (.list (ms.map .int))=σ1 at*;have loop:∀(rs Uq:List Int) (x:Option AV) (RR:List AV->AS->Prop),(∀Ur:List Int,Ur.length=Uq.length+rs.length->RR (Ur.map .int) σ1)->bN (rZ) none r7 (fun σ=>σ R=some (.list (ms.map .int))) k RR (rs.map .int) (Uq.map .int) [x] σ1:=by
  intro rs;induction rs with
  | nil=>intro Uq x RR h;show h Uq rfl
  | cons n rs ih=>
   intro Uq x RR h;rw[dI];left;show pF ?_;show MM ?_;show⟨PySem.IntMulOk.of_left (PySem.intBits_le_64 zd zd),?_⟩;show BC ?_;show⟨hR1,?_⟩;have e:∀m:Int,Uq.map AV.int++[.int m]=(Uq++[m]).map .int:=fun m=>zs;change bN _ _ _ _ _ _ _ (Uq.map AV.int++[.int _]) _ _;rw[e];show ih _ _ _ fun Ur q=>h Ur (by rw[q,j7,LY,fF];lia)
 show loop ms [] none _ fun Uq ha L hL=>?_;have T2:=AS.Sub.set (o:= .list (Uq.map .int)) hL;show⟨zl,?_⟩;intro P hP;have T3:=AS.Sub.set (o:= .list [.ref L,.int 0,.int 0]) hP;show hq P L _ ((T1.trans T2).trans T3) ⟨Uq,0,0,AS.UJ,T3 _ _ AS.UJ,by rw[ha];change 0+ms.length<=_;lia⟩
end
set_option tactic.hygienic true
noncomputable section
open MeetsSeq
theorem Kb {f:Flow} (h:fl f=some .next):f= .next:=by
 cases f with
 | next=>rfl
 | _=>cases h
theorem IH {f:Flow} {u:AV} (h:fl f=some (.ret u)):∃v,f= .ret v/\er v=u:=by
 cases f with
 | ret v=>show⟨v,rfl,QY.ret.inj (ql h)⟩
 | _=>cases h
noncomputable def WB (B:CB F) (k:Nat) (l:aO) (σ:AS):Prop:=∀(c:Cx F) (s:Shared),da c.A k->St c l σ s->
 wpAny (model Ω.p Ω.w) c.A (execs B.b c.env) (fun f s'=>(∃v,f= .ret v/\er v= .bool true)/\Ω.b.StaysIn s'.heap/\s'.os=c.g.os/\s'.gens= #[]/\so c.g s'.heap) (fun _ _=>False) s
theorem St.bs {c:Cx F} {l:aO} {s:Shared} (S:St c l σ s):Ω.b.StaysIn s.heap/\s.os=c.g.os/\s.gens= #[]/\so c.g s.heap:=
 ⟨fun b o e=>S.rs.keep b o (c.keeps b o e),S.rs.calm.1,S.rs.calm.2,fun b o e _=>⟨o.slots,S.rs.keep b o e⟩⟩
theorem QT {B:CB F} {l:aO} (h:B.tr k l σ (fun f _ _=>f= .ret (.bool true)) fun _ _=>False):WB B k l σ:=fun c s R S=>
 dw (B.ok c k l σ s _ _ R S h) (fun f s' hp=>eg hp fun f' l' UH e S' q=>by
  subst q;show⟨IH e,S'.bs⟩) fun e s' z=>(aN z).elim
theorem gf {x:CS F} {r:CB F} {l:aO} (h:x.tr k l σ (fun f l₁ Uv=>match f with | .next=>WB r k l₁ Uv | f=>f= .ret (.bool true)) fun _ _=>False):WB (.K x r) k l σ:=fun c s R S=>
 wpAny_execs_cons (dw (x.ok c k l σ s _ _ R S h) (fun f UB hp=>eg hp fun f' l₁ Uv e Uz UE=>by
  cases f' with
  | next=>rw[Kb e];show UE c UB R Uz
  | ret u=>
   show ae (IH e) fun v hr1 ev=>?_;rw[hr1];show⟨⟨v,rfl,ev.trans (QY.ret.inj UE)⟩,Uz.bs⟩
  | brk=>cases UE
  | cont=>cases UE) fun _ _ z=>(aN z).elim)
theorem Ep {t:CT F} {x r:CB F} {p:Pos} {l:aO} (h:t.tr k l σ (fun b Uv=>Br b (WB x k l Uv) (WB r k l Uv)) fun _ _=>False):WB (.K (.ite t x .nil p) r) k l σ:=fun c s R S=>
 wpAny_execs_cons (wpAny_If (dw (t.ok c k l σ s _ _ R S h) (fun b UB hp=>ae hp fun Uv Uz UE=>by
  cases b
  . show wpAny_execs_nil (UE.f rfl c UB R Uz)
  . show dw (UE.t rfl c UB R Uz) (fun f UC ⟨⟨v,e,ev⟩,q⟩=>?_) fun _ _ z=>z.elim;subst e;show⟨⟨v,rfl,ev⟩,q⟩) fun _ _ z=>(aN z).elim))
theorem Ni {c:Cx F} {l:aO} {s:Shared} (R:da c.A k) (S:St c l σ s) (f:CE F) {id:Str} {p:Pos} (hf:f.e= .Name id p) (xs:List (CE F)) {pos:Pos} {u:AV}
 (ht:∀env,backTo pos (starEach (xs.map (·.e)) env)=xs.map fun x=>(false,eval x.e env))
 (h:f.tr k l σ (fun fv Uv=>bw Ω.w fv/\CE.argsTr xs k l Uv (fun vs Uw=>lN Ω k fv vs Uw u) fun _ _=>False) fun _ _=>False):
 wpAny (model Ω.p Ω.w) c.A (eval (.Call (.Name id p) (xs.map (·.e)) [] pos) c.env) (fun r s'=>er r=u/\(Ω.b.StaysIn s'.heap/\s'.os=c.g.os/\s'.gens= #[]/\so c.g s'.heap)/\∃m,s'.heap.Ns c.L m/\∀(i:Nat) (x:Str),F.names[i]?=some x->F.kinds[i]?=some .local->(m x).map er=(l[i]?).join) (fun _ _=>False) s:=by
 show wpAny_Call_NameR ?_;have z:=f.ok c k l σ s _ _ R S h;rw[hf] at z;show dw z (fun fv UB hp=>ae hp fun Uv Uz UE=>?_) fun _ _ e=>(aN e).elim;rw[ht];show callWith_of (P:=fun h=>∃s,s.heap=h/\∃σ,St c l σ s/\bw Ω.w (er fv)) (by rw[CE.plainArgs];rfl) (fun h hp=>ae hp fun s es hp=>ae hp fun σ S e=>es▸iK S e) ?_;show dw (CE.evalArgs_ok c k l _ R fv xs Uv UB _ Uz UE.2) (fun a UC hp=>aL hp fun ek hp=>ae hp fun Uw UA J=>⟨⟨UC,rfl,Uw,UA,UE.1⟩,?_⟩) fun _ _ e=>(aN e).elim;rw[ek];show dw (J.run c.A c.all (Mine.hide Uw UC) UC fv _ c.frames c.handled R UA.outer UA.rs.hide rfl rfl) (fun r s' ⟨er_,hb,ho,hg,hu⟩=>⟨er_,⟨hb,ho.trans UA.rs.calm.1,hg,fun b o q=>hu b o (UA.keepG q)⟩,?_⟩) fun _ _ z=>z;obtain⟨m,⟨o,es,ep,ho,hd,r⟩,hl⟩:=UA.ns;obtain⟨sl,hs⟩:=hu c.L o (by rw[bH UA.no];show ho) fun vs q=>by rw[hd] at q;cases q
 show⟨m,⟨_,es,ep,hs,hd,r⟩,fun i x hx hk=>?_⟩;have:=hl i x .local hx hk;unfold ct at this
 rwa [dr zd] at this
theorem xd {l:aO} {y:CE F} {i a b:Nat} {p1 p2:Pos} {xs:List (CE F)} (n:Int)
 (hy:∀(c:Cx F) (s':Shared) (m:Str->Option Value) (Q:Value->Shared->Prop),s'.heap.Ns c.L m->(∀(i:Nat) (x:Str),F.names[i]?=some x->F.kinds[i]?=some .local->(m x).map er=(l[i]?).join)->(∀t tk,Q (.int n t) {s' with toks:=tk})->wpAny (model Ω.p Ω.w) c.A (eval y.e c.env) Q (fun _ _=>False) s')
 (h:match F.gs[i]? with | some g=>g.cb=true/\CE.argsTr xs k l σ (fun vs Uw=>lN Ω k (er g.u) vs Uw (.int n)) (fun _ _=>False) | none=>False):WB (.K (.ret (.cmp (.c i a xs b) .Eq y p1) p2) .nil) k l σ:=by
 intro c s R S;show wpAny_execs_cons (wpAny_Return_some ?_);show wpAny_Compare1 ?_ (gi .Eq y);cases q:F.gs[i]? with
 | none=>rw[q] at h;show h.elim
 | some g=>
 rw[q] at h;show ae (zQ q (z a)) fun f e hv=>?_;have z:f.tr k l σ (fun fv Uv=>bw Ω.w fv/\CE.argsTr xs k l Uv (fun vs Uw=>lN Ω k fv vs Uw (.int n)) fun _ _=>False) fun _ _=>False:=by rw[hv];show⟨g.cl h.1 _,h.2⟩
 show dw (Ni R S f e xs (eh (Mine.z b) xs) z) (fun r s' ⟨e,hb,m,hn,hl⟩=>?_) fun _ _ z=>z;show hy c s' m _ hn hl fun t tk=>?_;show aw (aI e) fun t' hr1=>?_;rw[hr1];show eq_int ?_;show⟨(aS _ rfl (by change AV.bool (n==n)=_;rw[beq_self_eq_true])),hb⟩
theorem Ff {p1 p2 p3:Pos} {c:Cx F} {s':Shared} {Q:Value->Shared->Prop} (hq:∀t tk,Q (.int (-1) t) {s' with toks:=tk}):wpAny (model Ω.p Ω.w) c.A (eval (.BinOp (.Constant (.int 0) 0 p1) .Sub (.Constant (.int 1) 0 p2) p3) c.env) Q (fun _ _=>False) s':=
 wpAny_BinOp (wpAny_Constant_int (wpAny_Constant_int (sub_int (hq _ _))))
theorem Kc {l:aO} {i:Nat} {x:Str} {p:Pos} {n:Int} {c:Cx F} {s':Shared} {m:Str->Option Value} {Q:Value->Shared->Prop} (hn:s'.heap.Ns c.L m) (hl:∀(i:Nat) (x:Str),F.names[i]?=some x->F.kinds[i]?=some .local->(m x).map er=(l[i]?).join) (hx:F.names[i]?=some x) (hk:F.kinds[i]?=some .local) (hi:(l[i]?).join=some (.int n))
 (hq:∀t tk,Q (.int n t) {s' with toks:=tk}):wpAny (model Ω.p Ω.w) c.A (eval (.Name x p) c.env) Q (fun _ _=>False) s':=by
 show j8 (F.kind_ i x hx) fun kd hkd hlk hor=>?_;rw[hk] at hkd;cases hkd;have:=hl i x hx hk;rw[hi] at this;show ae (Qb.mp this) fun v hv ev=>?_;show aw (aI ev) fun t hr1=>?_;subst hr1;show wpAny_Name (wpAny_loadName_local F.fn hlk hn hv (hq t s'.toks)) (F.nodebug x (zz hx))
theorem Nj (W:WW) {a:Addr} {cd:Value} {n:Nat} {vs:List AV} (B:CB F)
 (D:ic F Ω.w Ω.b a cd B.b n fun vv=>F.names.zip vv) (hn:vs.length=n) (hz:n<=F.names.length) (h:WB B k (fN F vs) σ):lN Ω (k+1) (.ref a) vs σ (.bool true):=by
 have hb:∀vv:List Value,vv.map er=vs->∀(i:Nat) (x:Str) (kd:NameKind),F.names[i]?=some x->F.kinds[i]?=some kd->((if kd= .cell then bindC (fun y=>F.scope.names.lookup y) (F.names.zip vv) (fun _=>none) else bindL (fun y=>F.scope.names.lookup y) (F.names.zip vv) fun _=>none) x).map er=((fN F vs)[i]?).join:=fun vv e i x kd hx hkd=>by
  show j8 (F.kind_ i x hx) fun kd' hkd' hlk hor=>?_;rw[hkd] at hkd';cases hkd';rw[<-e,pC,nG];rcases hor with rfl | rfl
  . rw[dr zd,yJ F.nd vv _ i x hx hlk];simp
  . rw[eM rfl,yK F.nd vv _ i x hx hlk];simp
 have hl:(fN F vs).length=F.names.length:=dN _ zo;show⟨fun A Up g s fv vv hA hH R O rs hf hv=>?_⟩;rw[ah hf];show Qo D.at_ fun o fd ho hd hcr hbd hsc hclo hE hbi=>?_;have kb:∀b o,Ω.b.get? b=some o->s.heap.get? b=some o:=fun b o e=>rs.keep b o (O.keeps b o e);have hlen:vv.length=n:=by rw[<-hn,<-hv,a9]
 have hr1:A.depth<recursionLimit:=Df zo R.1;show wpAny_call (codeAny_call_cells hr1 (kb _ _ ho) hd (W.top.nolimit.keeps kb) (hcr.keeps kb) hbd (hbi vv hlen) hclo (by rw[hsc];show D.kinds _ vv hlen) ?_ (by rw[hsc];show D.plain.1) (by rw[hsc];show D.plain.2) (by rw[hsc];show F.fn));intro UB x;rw[hE] at x⊢;have fresh:s.heap.get? s.heap.objs.size=none:=a7 _;have none_ge:∀ca,s.heap.objs.size<=ca->s.heap.get? ca=none:=fun ca hca=>by
  cases q:s.heap.get? ca with
  | none=>rfl
  | some o=>show absurd (va q) (Nat.not_lt.mpr hca)
 have bfresh:Ω.b.get? s.heap.objs.size=none:=by
  cases q:Ω.b.get? s.heap.objs.size with
  | none=>rfl
  | some o=>show absurd (fresh.symm.trans (kb _ _ q)) nofun
 show bQ x.done fun UE tk hr2 hk=>?_;subst hr2
 let env:=pp F.scope s.heap.objs.size (cellsFrom (s.heap.objs.size+1) F.scope.names []) (F.name++".<locals>.") (some a) cd (some s.heap.objs.size)
 have ab:∀x' ca,(cellsFrom (s.heap.objs.size+1) F.scope.names []).lookup x'=some ca->s.heap.objs.size+1<=ca:=fun x' ca hm=>x.above x' ca (mem_of_lookup hm)
 let c:Cx F:=⟨A.deeper env,env::Up,g,s.heap.objs.size,cellsFrom (s.heap.objs.size+1) F.scope.names [],F.name++".<locals>.",some a,cd,some s.heap.objs.size,W,Around.frames_deeper hA,hH,O.keeps,ie O F.fn rfl bfresh,O.mods,rs.none_of fresh,x.apart,
  fun x' ca hm=>Nat.ne_of_gt (ab x' ca hm),(fun _ x' ca hm=>rs.none_of (none_ge ca (by have:=ab x' ca hm;lia))),fun _=>(aS _ rfl rfl)⟩
 have S:St c (fN F vs) σ {s with heap:=UE,toks:=tk}:=⟨⟨_,x.toInCall.ns,fun i y kd hy hkd=>by
  have e:=hb vv hv i y kd hy hkd;unfold ct;split
  . rename_i q;subst q;rw[eM rfl] at e;show aw (Option.isSome_iff_exists.mp (D.cell (s.heap.objs.size+1) i y hy hkd)) fun ca hca=>?_;show⟨ca,_,hca,x.cell y ca hca,e⟩
  . rename_i q;rw[dr q] at e;show e⟩,hl,rs.ext hk,rs.free_of fresh,fun x' ca hm=>⟨rs.free_of (none_ge ca (by have:=ab x' ca hm;lia)),let ⟨o,ho,_⟩:=x.cell x' ca hm;⟨o,ho⟩⟩⟩
 show dw (h c _ R.deeper S) (fun f s' ⟨⟨v,e,ev⟩,q⟩=>?_) fun _ _ z=>z.elim;subst e;show⟨ev,q⟩
end
set_option tactic.hygienic false
noncomputable section
open MeetsSeq
noncomputable def uu (bf0:Option Nat):List LS->Option Nat
 | []=>bf0
 | x::_=>some x.p
def fA (bf0:Option Nat):List LS->Prop
 | []=>True
 | x::r=>(∃nw,jh (uu bf0 r) nw x.ks)/\fA bf0 r
structure Lw (σ:AS) (P L Wd A:Addr) (D:LU) (ls:List LS) (bf0:Option Nat):Prop where
 C:Cl σ P L Wd D A
 a:(σ.out (cr P L Wd)) A=some (.list (ls.map fun x=> .ref x.t))
 at_:∀x∈ls,x.At (σ.out (cr P L Wd))
 ok:∀x∈ls,x.Ok D
 ch:fA bf0 ls
 dec:(ls.map (·.p)).Pairwise (· > ·)
 len:D.length<=20+1301*ls.length
theorem II (W:WW) {P L Wd R:Addr} {bf0:Option Nat} {many:Nat} {Q:ax} {x0 x3:Option AV} (hb:∀p,bf0=some p->p<10^6) (hm4:many<=4):∀(n i:Nat) (σ:AS) (A:Addr) (D:LU) (ls:List LS) (x6:Option AV),
 Lw σ P L Wd A D ls bf0->ls.length=i->i+n=many->(σ.out (cr P L Wd)) R=some (.rng 0 many 1)->(n=0->∃x r,ls=x::r/\jh (uu bf0 r) true x.ks)->
 (∀(UH:AS) (A':Addr) (D':LU) (x:LS) (r:List LS) (x6:Option AV),Lw UH P L Wd A' D' (x::r) bf0->(σ.out (cr P L Wd)).Sub (UH.out (cr P L Wd))->(x::r).length=many->jh (uu bf0 r) true x.ks->
  Q .next [x0,some (.ref P),some (.int many),x3,some (.ref Wd),some (.int x.p),x6,none,none,none,none,none,none,none,none,none,none,none,none,none,none,none] UH)->
 bU (H7) H8 (fun σ=>σ R=some (.rng 0 many 1)) (k+15) Q ((List.range' i n).map fun j:Nat=> .int j) [x0,some (.ref P),some (.int many),x3,some (.ref Wd),some (Q6 (uu bf0 ls)),x6,none,none,none,none,none,none,none,none,none,none,none,none,none,none,none] σ:=by
 intro n;induction n with
 | zero=>
  intro i σ A D ls x6 h hi hin hR h0 hq;show bQ (h0 rfl) fun x r hr2 kx=>?_;subst hr2;show hq σ A D x r x6 h AS.Sub.rfl zo kx
 | succ n ih=>
  intro i σ A D ls x6 h hi hin hR h0 hq;rw[List.range'_succ,dI];have hb2:∀p,uu bf0 ls=some p->p<10^6:=fun p hp=>by
   cases ls with
   | nil=>show hb p hp
   | cons x r=>
    have:=(h.ok x bJ).lt;have hl:=h.len;injection hp with hp;rw[hi] at hl;lia
  have en:(((i:Nat):Int)==((many:Nat):Int)-1)=decide (i+1=many):=by
   by_cases e:i+1=many
   . rw[yz e,Bh];lia
   . rw[uw e,xg];lia
  walk_at "w";rw[en];show En (bf:=uu bf0 ls) (nw:=decide (i+1=many)) W h.C h.a zm (by have:=h.len;rw[hi] at this;lia) hb2 fun σ1 x D1 A1 q1 q2 q3 q4 q5 q6 q7 q8=>?_;show ae q3 fun tx hr1 tz=>?_;subst hr1;have h1:Lw σ1 P L Wd A1 (D++10::tx) (x::ls) bf0:=by
   show⟨q5,by rw[dI];show q7,fun y hy=>?_,fun y hy=>?_,⟨⟨_,q4⟩,h.ch⟩,?_,?_⟩
   . rcases mV hy with rfl | hy
     . show q8
     . show(h.at_ y hy).sub q6
   . rcases mV hy with rfl | hy
     . show q1
     . show(h.ok y hy).grow
   . rw[dI,List.pairwise_cons];show⟨fun p hp=>?_,h.dec⟩;show ae (bp.mp hp) fun y hy hr2=>?_;subst hr2;have:=(h.ok y hy).lt;lia
   . have:=h.len;rw[j7,fF,fF];lia
  show ak (i:=1) q5.w rfl zd ?_;show ak (i:=0) (AS.out_sub _ _ q7) rfl zd ?_;show f0 (i:=0) (.inl (AS.out_sub _ _ q8.t)) rfl zd ?_;show⟨AS.out_sub _ _ (q6 _ _ hR),?_⟩;show ih (i+1) σ1 A1 _ (x::ls) _ h1 (by rw[fF,hi]) zo (q6 _ _ hR) (fun e=>⟨x,ls,rfl,?_⟩) fun UH A' D' y r x6 g1 g2 g3 g4=>hq UH A' D' y r x6 g1 (q6.trans g2) g3 g4;rw[yz (by lia:i+1=many)] at q4;show q4
theorem jh.prev {p:Nat} {nw:Bool} {s:Ks} (h:jh (some p) nw s):(bk,p)∈s:=by
 show bQ h fun mk xr hr2 _=>?_;rw[hr2];simp [Q7]
theorem jh.noprev {nw:Bool} {s:Ks} (h:jh none nw s):∀y∈s,y.1≠bk:=by
 show aH h fun mk xr hr2 h1 h2=>?_;rw[hr2];intro y hy;rcases eL.mp hy with hy | hy
 . rw[dK.mp hy];change be≠bk;decide
 rcases eL.mp hy with hy | hy
 . rcases h1 with ⟨rfl,-⟩ | ⟨m,rfl⟩
   . cases hy
   . rw[dK.mp hy];change dH≠bk;decide
 . rcases h2 with rfl | ⟨n,rfl⟩
   . cases hy
   . rw[dK.mp hy];change iJ≠bk;decide
theorem Er {s:Ks} {x:LU} {n:Nat} (h:(x,n)∈s):(bd x,PV.int (az n))∈Gd (ey s):=bp.mpr ⟨(bd x,n),bp.mpr ⟨(x,n),h,rfl⟩,rfl⟩
noncomputable abbrev gu (ls:List LS):List (Nat×nX):=ls.map fun y=>(y.p,y.sec)
theorem nz {bf0:Option Nat} {D:LU} (E:LU):∀{ls:List LS},(∀x∈ls,x.Ok D)->fA bf0 ls->gA (D++10::E) (gu ls)
 | [],_,_=>trivial
 | [x],h,_=>(h x bJ).at_ E
 | x::y::r,h,c=>by
  obtain⟨⟨nw,kf⟩,c2⟩:=c;show⟨(h x bJ).at_ E,⟨az y.p,?_,bc _⟩,nz E (fun z hz=>h z (du _ hz)) c2⟩;rw[(h x bJ).kv,<-jg];show Er kf.prev
theorem tm {D:LU}:∀{ls:List LS},(∀x∈ls,x.Ok D)->fA none ls->∀y∈fW (gu ls),y.1≠"Prev"
 | [],_,_=>aF
 | [x],h,c=>by
  obtain⟨⟨nw,kf⟩,-⟩:=c;intro y hy e;rw[show fW (gu [x])=x.sec.kv from rfl,(h x bJ).kv] at hy;show ae (bp.mp hy) fun z hz hr2=>?_;subst hr2;show ae (bp.mp hz) fun u hu hr2=>?_;subst hr2;rw[<-jg] at e;show kf.noprev u hu (vf e)
 | x::y::r,h,c=>tm (ls:=y::r) (fun z hz=>h z (du _ hz)) c.2
theorem zr {D:LU} {p:Nat}:∀{ls:List LS},ls≠[]->(∀x∈ls,x.Ok D)->fA (some p) ls->(("Prev":Str),PV.int (az p))∈fW (gu ls)/\((fW (gu ls)).map (·.1)).Nodup
 | [],h,_,_=>absurd rfl h
 | [x],_,h,c=>by
  obtain⟨⟨nw,kf⟩,-⟩:=c;rw[show fW (gu [x])=x.sec.kv from rfl];show⟨?_,((h x bJ).at_ []).nd⟩;rw[(h x bJ).kv,<-jg];show Er kf.prev
 | x::y::r,_,h,c=>zr (ls:=y::r) nofun (fun z hz=>h z (du _ hz)) c.2
theorem Es {l:List Nat} (h:l.Pairwise (· > ·)):l.Nodup:=h.imp fun h e=>zo
noncomputable def og:LU:=[10,120,114,101,102,10,48,32,48,10,116,114,97,105,108,101,114,32,60,60,32,47,80,114,101,118,32]
noncomputable def Dd:LU:=[32,47,88,82,101,102,83,116,109,32,57,57,57,57,57,32,62,62]
theorem IJ:az 99999=[57,57,57,57,57]:=zk
theorem Nk {p:Nat} (hp:p<10^6):fE [(bk,p),(iJ,99999)]:=by
 show⟨by change[bk,iJ].Nodup;decide,fun y hy=>?_,fun y hy=>?_,by change 2<=4;decide⟩
 . rcases mV hy with rfl | hy
   . show .inr (.inl rfl)
   . rw[dK.mp hy];show .inr (.inr (.inr rfl))
 . rcases mV hy with rfl | hy
   . show hp
   . rw[dK.mp hy];change 99999<10^6;decide
theorem Kd {p:Nat} (hp:p<10^6):fE [(bk,p)]:=by
 show⟨by change[bk].Nodup;decide,fun y hy=>?_,fun y hy=>?_,by change 1<=4;decide⟩
 . rw[dK.mp hy];show .inr (.inl rfl)
 . rw[dK.mp hy];show hp
theorem Fg {D R ws:LU} {p:Nat} {ks:Ks} (hk:fE ks) (hws:∀c∈ws,qm c=true) (hd:D.drop p=ws++(y9++([10]++([48]++([32]++([48]++([10]++(fq++([32]++([60,60]++(32::(ed ks++[62,62])++R))))))))))):gz D p (dT ks):=
 ⟨⟨ws,R,hws,by rw[hd,sj]⟩,hk.good,by have:=hk.len;delta dT;rw[a9];lia,hk.ind⟩
theorem IK {B:LU} {p:Nat} (hp:p<10^6):gz (B++(og++az p++Dd)) B.length (dT [(bk,p),(iJ,99999)]):=by
 show Fg (R:=[]) (ws:=[10]) (Nk hp) zd ?_;rw[Mr];have e:ed [(bk,p),(iJ,99999)]=47::(bk++(32::(az p++(32::(47::(iJ++(32::(az 99999++[32])))))))):=rfl;rw[e,IJ]
 delta og Dd bk iJ
 simp
theorem Gp {B:LU} {p:Nat} (hp:p<10^6):gz (B++(og++az p++[32,62,62,10])) (B.length+1) (dT [(bk,p)]):=by
 show Fg (R:=[10]) (ws:=[]) (Kd hp) aF ?_;rw[<-List.drop_drop,Mr];have e:ed [(bk,p)]=47::(bk++(32::(az p++[32]))):=rfl;rw[e]
 delta og bk
 simp
theorem QU (W:WW) {B:LU} {p:Nat} (hp:p<10^6) (hz:B.length<=90000):lN Ω (k+15) (.ref 1872) [.bytes (B++(og++az p++Dd)),.int B.length] σ (.int (-1)):=by
 have hl:(B++(og++az p++Dd)).length<=90100:=by
  have:(az p).length<=6:=aW zd hp
  delta og Dd
  simp;lia
 show kE (k:=k+14) W fun σ=>?_;show wL (ds:=az 99999) W zo (IK hp) ?_ ?_ ⟨rfl,rfl⟩
 . rw[mR,<-wY];show Er (du _ bJ)
 . rw[bc];lia
theorem Nl (W:WW) {B:LU} (hz:B.length<=90000):lN Ω (k+15) (.ref 1872) [.bytes (B++(og++az (B.length+1)++[32,62,62,10])),.int (B.length+1:Nat)] σ (.int (B.length+1:Nat)):=by
 have hp:B.length+1<10^6:=zo;have hl:(B++(og++az (B.length+1)++[32,62,62,10])).length<=90100:=by
  have:(az (B.length+1)).length<=6:=aW zd hp
  delta og
  simp;lia
 show kE (k:=k+14) W fun σ=>?_;have kv:cP (dT [(bk,B.length+1)])=[(("Prev":Str),PV.int (az (B.length+1)))]:=by rw[mR,<-jg];rfl
 show uY (c:= .hd (dT [(bk,B.length+1)])) (r:=[]) (ds:=az (B.length+1)) W zo ⟨Gp hp,QR fun y hy=>by rw[dK.mp hy];change bk≠iJ;decide⟩ zs (by change 1<=1000;decide) ?_ ?_ ?_ ⟨rfl,by rw[bc]⟩
 . change((cP (dT [(bk,B.length+1)])).map (·.1)).Nodup;rw[kv];simp
 . change _∈cP (dT [(bk,B.length+1)]);rw[kv];show bJ
 . rw[bc];show bJ
theorem QV (W:WW) {D:LU} {x:LS} {r:List LS} (ok:∀y∈x::r,y.Ok D) (ch:fA (some 9999) (x::r)) (dec:((x::r).map (·.p)).Pairwise (· > ·)) (hz:D.length+1<=9999) (hr:(x::r).length<=10):lN Ω (k+15) (.ref 1872) [.bytes (D++[10]),.int x.p] σ (.int (-1)):=by
 show kE (k:=k+14) W fun σ=>?_;show aL (zr (ls:=x::r) nofun ok ch) fun h1 h2=>?_;show wI (c:=x.sec) (r:=gu r) (ds:=az 9999) W zu (nz [] ok ch) ?_ ?_ h2 h1 ?_ ⟨rfl,rfl⟩
 . change((gu (x::r)).map (·.1)).Nodup;have:(gu (x::r)).map (·.1)=(x::r).map (·.p):=by rw[bq];rfl
   rw[this];show Es dec
 . change(gu (x::r)).length<=_;rw[a9];lia
 . rw[bc,j7];show hz
theorem Ke (W:WW) {D:LU} {x:LS} {r:List LS} (E:LU) (ok:∀y∈x::r,y.Ok D) (ch:fA none (x::r)) (dec:((x::r).map (·.p)).Pairwise (· > ·)) (hz:(D++10::E).length<=1000000) (hr:(x::r).length<=10)
 (hq:∀F UH done,σ.Sub UH->UH F=some (.list (done.map fun x:nY=> .ref x.1))->done.map (·.2)=gu (x::r)->kF UH done->Q (.ref F) UH):aa (k+15) (.ref 1872) [.bytes (D++10::E),.int x.p] σ Q X:=by
 show(af W i9 (ug W) rfl zd ?_).call;walk_at "w";show⟨by first | show trivial | (change keepIn _ _=true;kernel_rfl),?_⟩;show pb (c:=x.sec) (r:=gu r) W hz (nz E ok ch) ?_ ?_ (tm ok ch) fun F UH done S h1 h2 h3=>?_
 . change((gu (x::r)).map (·.1)).Nodup;have:(gu (x::r)).map (·.1)=(x::r).map (·.p):=by rw[bq];rfl
   rw[this];show Es dec
 . change(gu (x::r)).length<=_;rw[a9];lia
 left;show hq F UH done S h1 h2 h3
theorem to:∀{l:List Str},sortedS l=true->l.Pairwise fun a b=>a.cps.toList<=b.cps.toList
 | [],_=> .nil
 | [a],_=>zs
 | a::b::r,h=>by
  have h:(!PySem.Spec.ltCps b.cps.toList a.cps.toList&&risingS b r)=true:=h;rw[nH,ltCps_eq] at h;have ih:=to (l:=b::r) h.2;have hab:a.cps.toList<=b.cps.toList:=by
   have:=h.1;rw[Bool.not_eq_true',decide_eq_false_iff_not] at this;show List.not_lt.mp this
  rw[List.pairwise_cons];show⟨fun c hc=>?_,ih⟩;rcases mV hc with rfl | hc
  . show hab
  . show List.le_trans hab ((List.pairwise_cons.mp ih).1 c hc)
theorem Kf {a b:Str} (h:a.cps.toList=b.cps.toList):a=b:=by
 obtain⟨a⟩:=a;obtain⟨b⟩:=b;have:a=b:=Array.toList_inj.mp h;rw[this]
theorem Gq {a b:List Str} (p:a.Perm b) (ha:sortedS a=true) (hb:sortedS b=true):a=b:=
 List.Perm.eq_of_pairwise (le:=fun x y:Str=>x.cps.toList<=y.cps.toList) (fun x y _ _ h1 h2=>Kf (List.le_antisymm h1 h2)) (to ha) (to hb) p
theorem xe {S T:Addr} {ys:List (Str×Nat)} {ss ts:List Str} (h1:jA σ S (ss.map fun s=>(s,Ei ys s))) (h2:jA σ T (ts.map fun s=>(s,Ei ys s))) (p1:ss.Perm (ys.map (·.1))) (p2:ts.Perm (ys.map (·.1))) (s1:sortedS ss=true) (s2:sortedS ts=true):Bj σ 3 (.ref S) (.ref T):=by
 have e:ss=ts:=Gq (p1.trans p2.symm) s1 s2;rw[e] at h1;show h1.deq h2
theorem Bj.up {n m:Nat} {a b:AV} (h:Bj σ n a b):n<=m->Bj σ m a b:=by
 induction h generalizing m with
 | int i=>show fun _=> .int i
 | str x=>show fun _=> .str x
 | @tup n a b xs ys h1 h2 h3 h4 ih=>
  intro hm;obtain⟨m,rfl⟩:∃m',m=m'+1:=⟨m-1,zo⟩;show .tup h1 h2 h3 fun i x y hx hy=>ih i x y hx hy zo
 | @dict n a b e e' xs ys h1 h2 h3 h4 h5 ih=>
  intro hm;obtain⟨m,rfl⟩:∃m',m=m'+1:=⟨m-1,zo⟩;show .dict h1 h2 h3 h4 fun i x v hx hv=>ih i x v hx hv zo
def yv (σ:AS) (a:Addr) (p:Nat) (rows:List aY) (ys:List (Str×Nat)):Prop:=∃E S ss,σ a=some (.tup [.int p,.ref E,.ref S])/\bD σ E rows/\jA σ S (ss.map fun s=>(s,Ei ys s))/\ss.Perm (ys.map (·.1))/\sortedS ss=true
theorem yv.sub {σ UH:AS} {a:Addr} {p:Nat} {rows:List aY} {ys:List (Str×Nat)} (h:yv σ a p rows ys) (S:σ.Sub UH):yv UH a p rows ys:=let ⟨E,T,ss,h1,h2,h3,h4⟩:=h;⟨E,T,ss,S _ _ h1,h2.sub S,h3.sub S,h4⟩
theorem yv.deq {a b:Addr} {p:Nat} {r1 r2:List aY} {ys:List (Str×Nat)} (h1:yv σ a p r1 ys) (h2:yv σ b p r2 ys) (pm:r1.Perm r2) (nd:(r2.map (·.n)).Nodup):Bj σ 4 (.ref a) (.ref b):=by
 show Qp h1 fun E S ss a1 a2 a3 a4 a5=>?_;show Qp h2 fun F T ts b1 b2 b3 b4 b5=>?_;show .tup a1 b1 rfl fun i x y hx hy=>?_
 match i,hx,hy with
 | 0,hx,hy=>cases hx;cases hy;show .int _
 | 1,hx,hy=>cases hx;cases hy;show(a2.deq b2 nd pm).up zd
 | 2,hx,hy=>cases hx;cases hy;show xe a3 b3 a4 b4 a5 b5
abbrev Fd:=Addr×LS
theorem Fh:∀{done:List nY} {ls:List LS},done.map (·.2)=gu ls->∃l:List Fd,done=l.map (fun y=>(y.1,y.2.p,y.2.sec))/\l.map (·.2)=ls
 | [],[],_=>⟨[],rfl,rfl⟩
 | [],_::_,h=>by cases h
 | _::_,[],h=>by cases h
 | d::done,x::ls,h=>by
  show aL (List.cons.inj h) fun h1 h2=>?_;show ae (Fh h2) fun l e1 e2=>?_;have h1:d.2=(x.p,x.sec):=h1;show⟨(d.1,x)::l,by rw[dI,<-e1];change d::done=(d.1,x.p,x.sec)::done;rw[<-h1],by rw[dI,e2]⟩
theorem Et {ks:Ks} (h:fE ks):((ey ks).map (·.1)).Nodup:=by
 have:(ey ks).map (·.1)=(ks.map (·.1)).map bd:=by unfold ey;rw[bq,bq];rfl
 rw[this];show nv h.nd
theorem mS {x:LS} {D:LU} (h:x.Ok D):(x.sec.rows.map (·.n)).Nodup/\x.sec.rows.length<=20:=⟨(h.perm.map _).nodup_iff.mpr h.nd,by rw[h.perm.length_eq];show h.len⟩
theorem Eu (W:WW) {F:Addr} {all:List Fd} {D:LU} {RR:List AV->AS->Prop}:∀(rs Uq:List Fd) (x:Option AV) (σ:AS),(∀y∈rs,y.2.Ok D/\y.2.ks≠[]/\gR σ y.1 y.2.p y.2.sec.rows y.2.sec.kv)->σ F=some (.list (all.map fun y=> .ref y.1))->(∀y∈Uq,yv σ y.1 y.2.p y.2.sec.rows (ey y.2.ks))->
 (∀(UH:AS) (Ur:List Fd),σ.Sub UH->Ur.map (·.2)=Uq.map (·.2)++rs.map (·.2)->(∀y∈Ur,yv UH y.1 y.2.p y.2.sec.rows (ey y.2.ks))->RR (Ur.map fun y=> .ref y.1) UH)->
 bN (CM) none CN (fun σ=>σ F=some (.list (all.map fun y:Fd=> .ref y.1))) (k+15) RR (rs.map fun y=> .ref y.1) (Uq.map fun y=> .ref y.1) [x] σ:=by
 intro rs;induction rs with
 | nil=>intro Uq x σ hs hF ha h;show h σ Uq AS.Sub.rfl zs ha
 | cons y rs ih=>
  intro Uq x σ hs hF ha h;obtain⟨o1,o2,M,E,d,q1,q2,q3⟩:=hs y bJ;have sr:=mS o1;rw[o1.kv] at q3;have hd:=q3.intD;have kl:=o1.ks.len;rw[dI];left;show AttrJ.of q1.i q1.n rfl zk rfl ?_;show AttrJ.of q1.i q1.n rfl zk rfl ?_;show qh W q2 sr.1 zo fun E2 σ1 S1 hE=>?_;show AttrJ.of (q1.sub S1).i (q1.sub S1).n rfl zk rfl ?_;show tc W (hd.sub S1) (Et o1.ks) (fun e=>o2 (List.map_eq_nil_iff.mp e)) (by unfold ey;rw[a9];lia) fun T σ2 ss S2 p2 s2 hT=>?_;show⟨zl,?_⟩;intro U hU;have S3:=AS.Sub.set (o:= .tup [.int y.2.p,.ref E2,.ref T]) hU;have S:=S1.trans (S2.trans S3);show⟨S _ _ hF,?_⟩;have e:(Uq.map fun x:Fd=>AV.ref x.1)++[.ref U]=(Uq++[((U,y.2):Fd)]).map fun x=> .ref x.1:=zs;change bN _ _ _ _ _ _ _ ((Uq.map fun x:Fd=>AV.ref x.1)++[.ref U]) _ _;rw[e];show ih _ _ _ (fun z hz=>let ⟨z1,z2,z3⟩:=hs z (du _ hz);⟨z1,z2,z3.sub S⟩) (S _ _ hF) (fun z hz=>?_) fun UH Ur S4 e2 h2=>h UH Ur (S.trans S4) (by rw[e2];simp) h2;rcases eL.mp hz with hz | hz
  . show(ha z hz).sub S
  . rw[dK.mp hz];show⟨E2,T,ss,AS.UJ,hE.sub (S2.trans S3),hT.sub S3,p2,s2⟩
theorem Gr (W:WW) {A:Addr} {all:List LS} {D:LU} {RR:List AV->AS->Prop}:∀(rs:List LS) (Uq:List Fd) (x y z:Option AV) (σ:AS),(∀y∈rs,y.Ok D/\y.ks≠[]/\y.At σ)->σ A=some (.list (all.map fun y=> .ref y.t))->(∀y∈Uq,yv σ y.1 y.2.p y.2.rows (ey y.2.ks))->
 (∀(UH:AS) (Ur:List Fd),σ.Sub UH->Ur.map (·.2)=Uq.map (·.2)++rs->(∀y∈Ur,yv UH y.1 y.2.p y.2.rows (ey y.2.ks))->RR (Ur.map fun y=> .ref y.1) UH)->
 bN (CO) none CP (fun σ=>σ A=some (.list (all.map fun y:LS=> .ref y.t))) (k+15) RR (rs.map fun y=> .ref y.t) (Uq.map fun y=> .ref y.1) [x,y,z] σ:=by
 intro rs;induction rs with
 | nil=>intro Uq x y z σ hs hF ha h;show h σ Uq AS.Sub.rfl zs ha
 | cons s rs ih=>
  intro Uq x y z σ hs hF ha h;obtain⟨o1,o2,q1,q2,q3⟩:=hs s bJ;have kl:=o1.ks.len;rw[dI];show aD q1 ⟨rfl,?_⟩;left;show tc W q3 (Et o1.ks) (fun e=>o2 (List.map_eq_nil_iff.mp e)) (by unfold ey;rw[a9];lia) fun T σ2 ss S2 p2 s2 hT=>?_;show⟨zl,?_⟩;intro U hU;have S3:=AS.Sub.set (o:= .tup [.int s.p,.ref s.R,.ref T]) hU;have S:=S2.trans S3;show⟨S _ _ hF,?_⟩;have e:(Uq.map fun x:Fd=>AV.ref x.1)++[.ref U]=(Uq++[((U,s):Fd)]).map fun x=> .ref x.1:=zs;change bN _ _ _ _ _ _ _ ((Uq.map fun x:Fd=>AV.ref x.1)++[.ref U]) _ _;rw[e];show ih _ _ _ _ _ (fun z hz=>let ⟨z1,z2,z3⟩:=hs z (du _ hz);⟨z1,z2,z3.sub S⟩) (S _ _ hF) (fun z hz=>?_) fun UH Ur S4 e2 h2=>h UH Ur (S.trans S4) (by rw[e2];simp) h2;rcases eL.mp hz with hz | hz
  . show(ha z hz).sub S
  . rw[dK.mp hz];show⟨s.R,T,ss,AS.UJ,q2.sub S,hT.sub S3,p2,s2⟩
noncomputable abbrev Gs (x0 P many way Wd bf turn data laid begin found at_ rows keys due number newest kB:Option AV):aO:=[x0,P,many,way,Wd,bf,turn,data,laid,begin,none,none,none,found,at_,rows,keys,due,number,newest,kB,none]
theorem Gu (W:WW) {V R:Addr} {eR:Nat} {rl:List ER} {Q:ax} {x0 x1 x2 x3 x4 x5 x6 x7 x8 x9 x13 x14 x16:Option AV} (hV:σ V=none) (hR:σ R=some (.dict eR (ag rl))) (nd:(rl.map (·.r.n)).Nodup):∀(rs Uq:List ER) (ep:Nat) (x18:Option AV),(∀y∈rs,y∈rl)->Uq.length+rs.length<=1000->
 (∀(x18:Option AV) (ep':Nat) (Ur:List ER),Ur.map (·.r)=dJ (fun _=>true) (Uq.map (·.r)) (rs.map (·.r))->(∀y∈Ur,y∈Uq\/y∈rs)->Ur.length<=Uq.length+rs.length->Q .next (Gs x0 x1 x2 x3 x4 x5 x6 x7 x8 x9 x13 x14 (some (.ref R)) x16 (some (.ref V)) x18 none none) (σ.set V (.dict ep' (ag Ur))))->
 bU (Ef) Eg (fun σ=>σ R=some (.dict eR (ag rl))) k Q (rs.map fun y=> .int y.r.n) (Gs x0 x1 x2 x3 x4 x5 x6 x7 x8 x9 x13 x14 (some (.ref R)) x16 (some (.ref V)) x18 none none) (σ.set V (.dict ep (ag Uq))):=by
 have hR':∀o,(σ.set V o) R=some (.dict eR (ag rl)):=fun o=>AS.Sub.set hV _ _ hR;intro rs;induction rs with
 | nil=>intro Uq ep x18 hm hl hq;show hq x18 ep Uq rfl (fun y hy=> .inl hy) (Nat.le_refl _)
 | cons y rs ih=>
  intro Uq ep x18 hm hl hq;rw[fF] at hl;have hy:=hm y bJ;rw[dI];show a8 (x:= .i y.r.n) (hR' _) (cR nd hy) ?_;show bM (x:= .i y.r.n) AS.UJ zu fun ep'=>?_;have xl:=rU Uq y;have go:(σ.set V (.dict ep' (iH (ag Uq) (.i y.r.n) (.ref y.a)))) R=some (.dict eR (ag rl))/\bU (Ef) Eg (fun σ=>σ R=some (.dict eR (ag rl))) k Q (rs.map fun y=> .int y.r.n) (Gs x0 x1 x2 x3 x4 x5 x6 x7 x8 x9 x13 x14 (some (.ref R)) x16 (some (.ref V)) (some (.int y.r.n)) none none) (σ.set V (.dict ep' (iH (ag Uq) (.i y.r.n) (.ref y.a)))):=by
   rw[<-iy];show⟨hR' _,ih (iI Uq y) ep' _ (fun z hz=>hm z (du _ hz)) zo fun x18 ep' Ur h1 h2 h3=>hq x18 ep' Ur ?_ (fun z hz=>?_) (by rw[fF];lia)⟩
   . rw[h1,sW];rfl
   . rcases h2 z hz with h | h
     . rcases rT h with h | rfl
       . show .inl h
       . show .inr bJ
     . show .inr (du _ h)
  rw[<-AS.UL (σ:=σ) (x:= .dict ep (ag Uq))] at go;show go
theorem Gv (W:WW) {V Z:Addr} {all:List LS} {Q:ax} {x0 x1 x2 x3 x4 x5 x6 x7 x8 x9 x13:Option AV} (hV:σ V=none) (hZ:σ Z=some (.list (all.map fun y:LS=> .ref y.t))) (hs:∀x∈all,x.At σ/\(x.rows.map (·.n)).Nodup/\x.rows.length<=20):
 ∀(rs dn:List LS) (Uq:List ER) (ep:Nat) (x14 x15 x16 x18:Option AV),(∀x∈rs,x∈all)->Uq.map (·.r)=fZ (dn.map (·.rows))->(∀y∈Uq,Ba σ y)->Uq.length+20*rs.length<=1000->
 (∀(x14 x15 x16 x18:Option AV) (ep':Nat) (Ur:List ER),Ur.map (·.r)=fZ ((rs.reverse++dn).map (·.rows))->(∀y∈Ur,Ba σ y)->Q .next (Gs x0 x1 x2 x3 x4 x5 x6 x7 x8 x9 x13 x14 x15 x16 (some (.ref V)) x18 none none) (σ.set V (.dict ep' (ag Ur))))->
 bU (H9) Ia (fun σ=>σ Z=some (.list (all.map fun y:LS=> .ref y.t))) k Q (rs.map fun y=> .ref y.t) (Gs x0 x1 x2 x3 x4 x5 x6 x7 x8 x9 x13 x14 x15 x16 (some (.ref V)) x18 none none) (σ.set V (.dict ep (ag Uq))):=by
 have S:=fun o=>AS.Sub.set (o:=o) hV;intro rs;induction rs with
 | nil=>intro dn Uq ep x14 x15 x16 x18 hm ha ht hl hq;show hq x14 x15 x16 x18 ep Uq ha ht
 | cons y rs ih=>
  intro dn Uq ep x14 x15 x16 x18 hm ha ht hl hq;rw[fF] at hl;obtain⟨⟨q1,q2,q3⟩,nd,yl⟩:=hs y (hm y bJ);show aH q2 fun eR rl r1 r2 r3=>?_;have nd2:(rl.map (·.r.n)).Nodup:=by rw[<-r3,bq] at nd;show nd
  have rz:rl.length<=20:=by rw[<-r3,a9] at yl;show yl
  rw[dI];show aD (S _ _ _ q1) ⟨rfl,?_⟩;show eQ.of cQ (S _ _ _ r1) ?_;have ek:((ag rl).map fun p:AK×AV=>p.1.av)=rl.map fun y=> .int y.r.n:=by rw[bq];rfl
  rw[ek];show Gu W hV r1 nd2 rl Uq ep x18 (fun _ h=>h) zo fun x18 ep' Ur h1 h2 h3=>?_;show⟨S _ _ _ hZ,?_⟩;show ih (y::dn) Ur ep' _ _ _ _ (fun z hz=>hm z (du _ hz)) ?_ (fun z hz=>(h2 z hz).elim (ht z) (r2 z)) zo fun x14 x15 x16 x18 ep' Ur g1 g2=>hq x14 x15 x16 x18 ep' Ur (by rw[g1];simp) g2;rw[h1,ha,r3];rfl
theorem Kg (W:WW) {P:Addr} {rows:List aY} {kv:List (Str×PV)} (h:kH σ P rows kv) (hr:∀y∈rows,y.n<99) (hq:Q .none σ):aa (k+1) (.ref 1779) [.ref P,.int 99] σ Q X:=by
 obtain⟨N,I,E,d,D,h1,⟨ep,l,h2,h3,h4⟩,-⟩:=h.ex;show(af W o6 (yb W) rfl zd ?_).call;show AttrJ.of h1.i h1.n rfl zk rfl ?_;show jQ h2 ?_;show mX (x:= .i ((99:Nat):Int)) h2 ?_;have e:bl (ag l) (.i ((99:Nat):Int))=none:=by
  have:=na l 99;cases q:bl (ag l) (.i ((99:Nat):Int)) with
  | none=>rfl
  | some v=>
   rw[q] at this;show ae (Bn.mp this.symm) fun z hz e=>?_;have:=hr z.r (by rw[<-h4];show bp.mpr ⟨z,hz,rfl⟩);have e:=Bi e;lia
 rw[e];show hq
noncomputable def iG (s:Str):Bool:=s==("Mark":Str)
theorem Gw (W:WW) {d A t R:Addr} {ep p:Nat} {Us:List AV} {ys:List (Str×Nat)} (nd:(ys.map (·.1)).Nodup) (RR:List AV->AS->Prop):∀(rs:List (Str×Nat)) (Uq:List DP) (x:Option AV) (σ:AS),(∀y∈rs,y∈ys)->σ d=some (.dict ep (ys.map fun y=>(.s y.1,.int y.2)))->σ A=some (.list (.ref t::Us))->σ t=some (.tup [.int p,.ref R,.ref d])->A0 σ Uq->
 (∀UH Ur,σ.Sub UH->Ur.map (·.2)=Uq.map (·.2)++(rs.filter fun y=>iG y.1).map (fun y=>(.s y.1,.int y.2))->A0 UH Ur->RR (Ur.map fun x=> .ref x.1) UH)->
 bN (CR) (some CQ) CU (fun σ=>σ d=some (.dict ep (ys.map fun y=>(.s y.1,.int y.2)))) k RR (rs.map fun y=> .str y.1) (Uq.map fun x=> .ref x.1) [x,some (.ref A)] σ:=by
 intro rs;induction rs with
 | nil=>intro Uq x σ hm hd hA ht h0 h;show h σ Uq AS.Sub.rfl zs h0
 | cons y rs ih=>
  intro Uq x σ hm hd hA ht h0 h;rw[dI];show Br.mk (fun hk=>?_) (fun hk=>?_)
  . have hk':iG y.1=true:=hk;show ak (i:=0) hA rfl zd ?_;show f0 (i:=2) (.inl ht) rfl zd ?_;show a8 (x:= .s y.1) hd (eN.get nd (hm y bJ)) ?_;show⟨zl,?_⟩;intro T hT;have S:=AS.Sub.set (o:= .tup [.str y.1,.int y.2]) hT;show⟨S _ _ hd,?_⟩;have e:(Uq.map fun x:DP=>AV.ref x.1)++[.ref T]=(Uq++[((T,.s y.1,.int y.2):DP)]).map fun x=> .ref x.1:=zs;change bN _ _ _ _ _ _ _ ((Uq.map fun x:DP=>AV.ref x.1)++[.ref T]) _ _;rw[e];show ih _ _ _ (fun z hz=>hm z (du _ hz)) (S _ _ hd) (S _ _ hA) (S _ _ ht) (fun z hz=>?_) fun UH Ur S2 e2 h2=>h UH Ur (S.trans S2) (by rw[e2,Mp,eM hk'];simp) h2;rcases eL.mp hz with hz | hz
    . show S _ _ (h0 z hz)
    . cases dK.mp hz;show AS.UJ
  . have hk':iG y.1=false:=hk;show⟨hd,ih Uq _ σ (fun z hz=>hm z (du _ hz)) hd hA ht h0 fun UH Ur S2 e2 h2=>h UH Ur S2 (by rw[e2,Mp,hk'];rfl) h2⟩
theorem Gx {ks:Ks} (h:∀y∈ks,y.1=be\/y.1=bk\/y.1=dH\/y.1=iJ):(ey ks).filter (fun y=>rX y.1)=(ey ks).filter fun y=>iG y.1:=by
 show List.filter_congr fun y hy=>?_;show ae (bp.mp hy) fun u hu hr2=>?_;subst hr2;dsimp only;rcases h u hu with e | e | e | e<;>rw[e]
 . rw[vg];kernel_rfl
 . rw[jg];kernel_rfl
 . rw[si];kernel_rfl
 . rw[wY];kernel_rfl
theorem jh.mark {bf:Option Nat} {s:Ks} (h:jh bf true s):(ey s).filter (fun y=>iG y.1)≠[]:=by
 show aH h fun mk xr hr2 h1 o_=>?_;rw[hr2];rcases h1 with ⟨-,h⟩ | ⟨m,rfl⟩
 . cases h
 . intro e;have:(bd dH,m)∈(ey ((be,9)::Q7 bf++([(dH,m)]++xr))).filter (fun y=>iG y.1):=by
    rw[List.mem_filter];show⟨bp.mpr ⟨(dH,m),zs,rfl⟩,?_⟩;rw[si];change iG "Mark"=true;decide
   rw[e] at this;cases this
theorem jh.size {bf:Option Nat} {nw:Bool} {s:Ks} (h:jh bf nw s):s≠[]:=by
 show bQ h fun mk xr hr2 o_=>?_;rw[hr2]
 nofun
theorem fA.size {bf0:Option Nat}:∀{ls:List LS},fA bf0 ls->∀x∈ls,x.ks≠[]
 | [],_,_,h=>nomatch h
 | y::r,h,x,hx=>by
  obtain⟨⟨nw,kf⟩,c⟩:=h;rcases mV hx with rfl | hx
  . show kf.size
  . show fA.size c x hx
theorem Bd {α:Type} {f:α->Nat} {c:Nat}:∀{l:List α},(∀x∈l,f x<=c)->(l.map f).sum<=c*l.length
 | [],_=>Nat.le_refl _
 | x::l,h=>by
  have:=Bd (l:=l) fun y hy=>h y (du _ hy);have:=h x bJ;rw[dI,List.sum_cons,fF,Nat.mul_succ];lia
theorem xf:∀ts:List (List aY),(fZ ts).length<=(ts.map List.length).sum
 | []=>Nat.le_refl _
 | t::ts=>by
  have:=xf ts;have:=qj (c:=fun o_=>true) (rs:=t) (Uq:=fZ ts);change(dJ (fun o_=>true) (fZ ts) t).length<=_;rw[dI,List.sum_cons];lia
theorem lC.mem {y:aY}:∀{ts:List (List aY)},lC ts y->∃t∈ts,y∈t
 | [],h=>h.elim
 | t::ts,h=>by
  rcases h with h | ⟨h,-⟩
  . show⟨t,bJ,h⟩
  . show ae (lC.mem h) fun u hu hy=>?_;show⟨u,du _ hu,hy⟩
theorem Gy {n:Nat} (h:n<=90000):(eI n).length<=100:=by
 have:(az n).length<=6:=aW zd zo;unfold eI;simp;lia
theorem IL (W:WW) {A:Addr} {D:LU} {x:LS} {r:List LS} {x0 x1 x2 x3 x4 x5 x6:Option AV} (hA:σ A=some (.list ((x::r).map fun y=> .ref y.t))) (hat:∀y∈x::r,y.At σ) (ok:∀y∈x::r,y.Ok D) (ch:fA none (x::r)) (dec:((x::r).map (·.p)).Pairwise (· > ·))
 (hz:D.length<=90000) (hr:(x::r).length<=4) (kf:jh (uu none r) true x.ks):(E7).tr (k+15) (Gs x0 x1 x2 x3 x4 x5 x6 (some (.bytes (D++[10]))) (some (.ref A)) (some (.int x.p)) none none none none none none none none) σ (fun f o_ o_=>f= .ret (.bool true)) X:=by
 have hz1:(D++10::[]).length<=1000000:=by simp;lia
 show Ke W [] ok ch dec hz1 zo fun F σ1 done S1 f1 f2 f3=>?_;show ae (Fh f2) fun l e1 e2=>?_;subst e1;have hF:σ1 F=some (.list (l.map fun y=> .ref y.1)):=by rw[f1,bq];rfl
 have mem:∀y∈l,y.2∈x::r:=fun y hy=>by rw[<-e2];show bp.mpr ⟨y,hy,rfl⟩
 show iO.of cw hF (by rw[a9];have:=congrArg List.length e2;rw[a9] at this;lia) ?_;show Eu W (D:=D) l [] none σ1 (fun y hy=>⟨ok _ (mem y hy),ch.size _ (mem y hy),f3 (y.1,y.2.p,y.2.sec) (bp.mpr ⟨y,hy,rfl⟩)⟩) hF aF fun σ2 Uq S2 g1 g2 Z1 hZ1=>?_;rw[EA,Bg,e2] at g1;have T3:=AS.Sub.set (o:= .list (Uq.map fun y:Fd=> .ref y.1)) hZ1;have hZ3:(σ2.set Z1 (.list (Uq.map fun y:Fd=> .ref y.1))) Z1=some (.list (Uq.map fun y:Fd=> .ref y.1)):=AS.UJ;have S3:=S1.trans (S2.trans T3);generalize σ2.set Z1 (.list (Uq.map fun y:Fd=> .ref y.1))=σ3 at*;show iO.of cw (S3 _ _ hA) zm ?_;show Gr W (D:=D) (x::r) [] none none none σ3 (fun y hy=>⟨ok _ hy,ch.size _ hy,(hat y hy).sub S3⟩) (S3 _ _ hA) aF fun σ4 acc2 S4 k1 k2 Z2 hZ2=>?_;rw[EA,Bg] at k1;have T5:=AS.Sub.set (o:= .list (acc2.map fun y:Fd=> .ref y.1)) hZ2;have hZ5:(σ4.set Z2 (.list (acc2.map fun y:Fd=> .ref y.1))) Z2=some (.list (acc2.map fun y:Fd=> .ref y.1)):=AS.UJ;have S35:=S4.trans T5;have S5:=S3.trans S35;have S15:=(S2.trans T3).trans S35;generalize σ4.set Z2 (.list (acc2.map fun y:Fd=> .ref y.1))=σ5 at*;have la:Uq.length=(x::r).length:=by have:=congrArg List.length g1;rwa [a9] at this
 have lb:acc2.length=(x::r).length:=by have:=congrArg List.length k1;rwa [a9] at this
 show HY (n:=4) (S35 _ _ hZ3) hZ5 (by rw[a9,a9,la,lb]) (fun i u v hu hv=>?_) zd ?_
 . rw[nG] at hu hv;cases qa:Uq[i]? with
   | none=>rw[qa] at hu;cases hu
   | some a=>
   cases qb:acc2[i]? with
   | none=>rw[qb] at hv;cases hv
   | some b=>
    rw[qa] at hu;rw[qb] at hv;cases hu;cases hv;have e1:(x::r)[i]?=some a.2:=by rw[<-g1,nG,qa];rfl
    have e3:(x::r)[i]?=some b.2:=by rw[<-k1,nG,qb];rfl
    have e:a.2=b.2:=ql (e1.symm.trans e3);have ea:=(g2 a (zz qa)).sub ((T3.trans S35));have eb:=(k2 b (zz qb)).sub T5;rw[e] at ea;have ob:=ok b.2 (zz e3);show ea.deq eb ob.perm ob.nd
 left;intro V ep hV;have T6:=AS.Sub.set (o:= .dict ep []) hV;show Gb (T6 _ _ (S5 _ _ hA)) zm fun Z hZ=>?_;show aL (AS.UM hZ) fun z1 z2=>?_;rw[AS.UN (ez z1)];rw[<-List.map_reverse];have T7:=AS.Sub.set (o:= .list ((x::r).reverse.map fun y:LS=> .ref y.t)) z2;have hZ7:(σ5.set Z (.list ((x::r).reverse.map fun y:LS=> .ref y.t))) Z=some (.list ((x::r).reverse.map fun y:LS=> .ref y.t)):=AS.UJ;have hV7:(σ5.set Z (.list ((x::r).reverse.map fun y:LS=> .ref y.t))) V=none:=(AS.UK (ez z1)).trans hV;have S7:=S5.trans T7;have S17:=S15.trans T7;generalize σ5.set Z (.list ((x::r).reverse.map fun y:LS=> .ref y.t))=σ7 at*;have T8:=fun o=>AS.Sub.set (o:=o) hV7;show eQ.of cw (T8 _ _ _ hZ7) ?_;show Gv W (all:=(x::r).reverse) hV7 hZ7 (fun y hy=>⟨(hat y (List.mem_reverse.mp hy)).sub S7,(ok y (List.mem_reverse.mp hy)).nd,(ok y (List.mem_reverse.mp hy)).len⟩) (x::r).reverse [] [] ep none none none none (fun o_ h=>h) rfl aF (by rw[List.length_reverse];simp;simp at hr;lia) fun x14 x15 x16 x18 ep' dl d1 d2=>?_;rw[List.reverse_reverse,Bo] at d1;have hVd:bD (σ7.set V (.dict ep' (ag dl))) V (fZ ((x::r).map (·.rows))):=⟨ep',dl,AS.UJ,fun y hy=>T8 _ _ _ (d2 y hy),d1⟩;have S8:=S7.trans (T8 (.dict ep' (ag dl)));have S18:=S17.trans (T8 (.dict ep' (ag dl)));generalize σ7.set V (.dict ep' (ag dl))=σ8 at*;have perm:(iB [] ((x::r).map fun y=>y.sec.rows)).Perm (fZ ((x::r).map (·.rows))):=Iz (fun y hy=>(ok y hy).perm) fun y hy=>(ok y hy).nd;have ndO:((iB [] ((x::r).map fun y=>y.sec.rows)).map (·.n)).Nodup:=xb (Uq:=[]) List.nodup_nil;have zO:(iB [] ((x::r).map fun y=>y.sec.rows)).length<=1000:=by
  rw[perm.length_eq];have h1:=xf ((x::r).map (·.rows));have h2:=Bd (l:=x::r) (f:=fun y=>y.rows.length) (c:=20) fun y hy=>(ok y hy).len;rw[bq] at h1;have h1:(fZ ((x::r).map (·.rows))).length<=((x::r).map fun y=>y.rows.length).sum:=h1;lia
 have smO:∀y∈iB [] ((x::r).map fun y=>y.sec.rows),y.n<99:=fun y hy=>by
  obtain⟨t,ht,hy2⟩:=lC.mem ((qi fun t ht=>by obtain⟨u,hu,rfl⟩:=bp.mp ht;show(ok u hu).nd).mp (perm.subset hy));show ae (bp.mp ht) fun u hu hr2=>?_;subst hr2;show(ok u hu).sm y hy2
 have em:(l.map fun y:Fd=>((y.1,y.2.p,y.2.sec):nY)).map (fun z=>z.2.2.rows)=(x::r).map fun y=>y.sec.rows:=by rw[<-e2,bq,bq];rfl
 have ll:l.length=(x::r).length:=by have:=congrArg List.length e2;rwa [a9] at this
 show Cu W (done:=l.map fun y:Fd=>((y.1,y.2.p,y.2.sec):nY)) (S18 _ _ f1) (f3.sub S18) (fun z hz=>by obtain⟨y,hy,rfl⟩:=bp.mp hz;show(mS (ok _ (mem y hy))).1) ?_ (by rw[a9,ll];lia) fun F2 σ9 S9 hF2=>?_
 . show Nat.le_trans (Bd (c:=20) fun z hz=>by obtain⟨y,hy,rfl⟩:=bp.mp hz;show(mS (ok _ (mem y hy))).2) (by rw[a9,ll];lia)
 rw[em] at hF2;obtain⟨at1,at2,at3⟩:=(hat x bJ).sub (S8.trans S9);have hA9:=(S8.trans S9) _ _ hA;rw[dI] at hA9;show aw at3 fun eK hK=>?_;have okx:=ok x bJ;have kl:=okx.ks.len;have ndK:=Et okx.ks;have lK:(ey x.ks).length<=4:=by unfold ey;rw[a9];show kl
 show ak (i:=0) hA9 rfl zd ?_;show f0 (i:=2) (.inl at1) rfl zd ?_;show iO.of cQ hK (by rw[a9,a9];lia) ?_;have ek:(((ey x.ks).map fun y:Str×Nat=>((.s y.1:AK),(.int y.2:AV))).map fun p=>p.1.av)=(ey x.ks).map fun y=>AV.str y.1:=by rw[bq];rfl
 rw[ek];show Gw W ndK _ (ey x.ks) [] none σ9 (fun o_ h=>h) hK hA9 at1 aF fun σ10 Ur S10 m1 m2 p hp=>?_;rw[EA,Bg] at m1;have l2:Ur.length<=4:=by
  have:=congrArg List.length m1;rw[a9,a9] at this;have:=List.length_filter_le (fun y:Str×Nat=>iG y.1) (ey x.ks);lia
 have T11:=AS.Sub.set (o:= .list (Ur.map fun x:DP=> .ref x.1)) hp;show jy AS.UJ (fun x hx=> .inl (T11 _ _ (m2 x hx))) zo fun K2 eK2 hK2=>?_;have T12:=AS.Sub.set (o:= .dict eK2 (dE [] Ur)) hK2;have e3:dE [] Ur=((ey x.ks).filter fun y=>iG y.1).map fun y=>((.s y.1:AK),(.int y.2:AV)):=by
  rw[nk,Bg,m1];rw[EA,Bg];have:Ur.map (fun x:DP=>x.2.1)=(((ey x.ks).filter fun y=>iG y.1).map (·.1)).map AK.s:=by
   have:=congrArg (List.map Prod.fst) m1;rw[bq,bq] at this;rw[bq];show this
  rw[this,List.Nodup,IZ];have nd2:(((ey x.ks).filter fun y=>iG y.1).map (·.1)).Nodup:=ndK.sublist (List.Sublist.map _ List.filter_sublist);show List.Pairwise.imp (fun h e=>h (AK.s.inj e)) nd2
 have hKept:eN ((σ10.set p (.list (Ur.map fun x:DP=> .ref x.1))).set K2 (.dict eK2 (dE [] Ur))) K2 ((ey x.ks).filter fun y=>iG y.1):=⟨eK2,by rw[AS.UJ,e3]⟩;have S12:=S10.trans (T11.trans T12);generalize (σ10.set p (.list (Ur.map fun x:DP=> .ref x.1))).set K2 (.dict eK2 (dE [] Ur))=σ12 at*;show qh W (hF2.sub S12) ndO zO fun E3 σ13 S13 hE3=>?_;have hV13:=hVd.sub (S9.trans (S12.trans S13));show E6 (n:=2) (hE3.deq hV13 (ny _) perm) zd ?_;left;obtain⟨y0,Us,rfl⟩:=IN (show l≠[] from fun e=>by rw[e] at ll;cases ll);have e2x:y0.2=x:=by have:=e2;rw[dI] at this;show(List.cons.inj this).1
 have sx:gR σ1 y0.1 x.p x.sec.rows (Gd (ey x.ks)):=by
  have:=f3 (y0.1,y0.2.p,y0.2.sec) (bp.mpr ⟨y0,bJ,rfl⟩);rw[e2x] at this;have h:gR σ1 y0.1 x.p x.sec.rows x.sec.kv:=this;rw[okx.kv] at h;show h
 have S113:=S18.trans (S9.trans (S12.trans S13));have hne:(ey x.ks).filter (fun y=>iG y.1)≠[]:=kf.mark;have nd3:(((ey x.ks).filter fun y=>iG y.1).map (·.1)).Nodup:=ndK.sublist (List.Sublist.map _ List.filter_sublist);have l3:((ey x.ks).filter fun y=>iG y.1).length<=60:=Nat.le_trans (List.length_filter_le _ _) zo;show qe W (S:=y0.1) (Us:=Us.map fun y:Fd=> .ref y.1) (S113 _ _ hF) (by rw[a9];rw[fF] at ll;lia) (sx.sub S113) ndK zo fun F4 σ14 S14 hF4=>?_;rw[Gx okx.ks.names] at hF4;show tc W hF4 nd3 hne l3 fun T1 σ15 ss1 S15' p1 s1 hT1=>?_;show tc W (hKept.sub (S13.trans (S14.trans S15'))) nd3 hne l3 fun T2 σ16 ss2 S16 p2 s2 hT2=>?_;show E6 (n:=3) (xe (hT1.sub S16) hT2 p1 p2 s1 s2) zd ?_;left;have S916:=S12.trans (S13.trans (S14.trans (S15'.trans S16)));have lx:=okx.lt;show M5 W (n:=x.p) (Df (show x.p<=90000 by lia) zd) ?_;have lt:(eI x.p).length<=100:=Gy zo;show⟨by simp;lia,?_⟩;have Lk:gA ((D++[10])++eI x.p) (gu (x::r)):=by
  rw[u9];show nz (eI x.p) ok ch
 have eR:((gu (x::r)).map fun z=>z.2.rows)=(x::r).map fun y=>y.sec.rows:=by rw[bq];rfl
 show M6 (c:=x.sec) (r:=gu r) W (by rw[j7,j7,LY];lia) Lk ?_ ?_ (tm ok ch) (fun z hz=>?_) ?_ fun P σ17 S17' hP=>?_
 . change((gu (x::r)).map (·.1)).Nodup;have:(gu (x::r)).map (·.1)=(x::r).map (·.p):=by rw[bq];rfl
   rw[this];show Es dec
 . change(gu (x::r)).length<=_;rw[a9];lia
 . have hz:z∈gu (x::r):=hz;show ae (bp.mp hz) fun u hu hr2=>?_;subst hr2;show(mS (ok u hu)).1
 . show Nat.le_trans (Bd (c:=20) fun z hz=>by
    have hz:z∈gu (x::r):=hz;show ae (bp.mp hz) fun u hu hr2=>?_;subst hr2;show(mS (ok u hu)).2) (by change 20*(gu (x::r)).length<=_;rw[a9];lia)
 have hP:kH σ17 P (iB [] ((gu (x::r)).map fun z=>z.2.rows)) x.sec.kv:=hP;rw[eR,okx.kv] at hP;show Qq (id hP.ex) fun N I E d D2 h1 h2 h3=>?_;have S917:=S916.trans S17';show AttrJ.of h1.i h1.n rfl zk rfl ?_;show qh W h2 ndO zO fun E4 σ18 S18' hE4=>?_;show E5 (n:=2) (hE4.deq (hVd.sub (S9.trans (S917.trans S18'))) (ny _) perm) zd ?_;left;show AttrJ.of (h1.sub S18').i (h1.sub S18').n rfl zk rfl ?_;have neK:ey x.ks≠[]:=fun e=>ch.size x bJ (List.map_eq_nil_iff.mp e);show tc W (h3.intD.sub S18') ndK neK zo fun T3' σ19 ss3 S19 p3 s3 hT3=>?_;have S919:=S917.trans (S18'.trans S19);show ak (i:=0) (S919 _ _ hA9) rfl zd ?_;show f0 (i:=2) (.inl (S919 _ _ at1)) rfl zd ?_;show tc W (eN.sub ⟨eK,hK⟩ S919) ndK neK zo fun T4 σ20 ss4 S20 p4 s4 hT4=>?_;show E5 (n:=3) (xe (hT3.sub S20) hT4 p3 p4 s3 s4) zd ?_;left;have hP20:=hP.sub (S18'.trans (S19.trans S20));have h20:=h1.sub (S18'.trans (S19.trans S20));show ad h20.i h20.n (f:=1779) zk ?_;show Kg W hP20 smO ?_;rfl
theorem IM (W:WW) {A P L Wd:Addr} {D:LU} {x:LS} {r:List LS} {way:Nat} {x0 x2 x5 x6:Option AV} (h:Lw σ P L Wd A D (x::r) (if way=1 then some 9999 else none)) (hr:(x::r).length<=4) (kf:jh (uu (if way=1 then some 9999 else none) r) true x.ks):
 WB (Ig) (k+15) [x0,some (.ref P),x2,some (.int way),some (.ref Wd),x5,x6,none,none,none,none,none,none,none,none,none,none,none,none,none,none,none] σ:=by
 have okx:=h.ok x bJ;have lD:D.length<=6000:=Nat.le_trans h.len (Nat.le_trans (Nat.add_le_add_left (Nat.mul_le_mul_left 1301 hr) 20) zd);have hA:=AS.out_sub _ _ h.a;have hat:∀y∈x::r,y.At σ:=fun y hy=>(h.at_ y hy).sub AS.out_sub;have lx:=okx.lt;show gf ?_;show ak (i:=0) h.C.w rfl zd ?_;show⟨by change D.length+1<=_;lia,?_⟩;show ak (i:=1) h.C.w rfl zd ?_;show⟨zl,?_⟩;intro U hU;have T1:=AS.Sub.set (o:= .tup [.bytes (D++[10]),.ref A]) hU;show aD AS.UJ ⟨rfl,?_⟩;have hA1:=T1 _ _ hA;have hat1:∀y∈x::r,y.At (σ.set U (.tup [.bytes (D++[10]),.ref A])):=fun y hy=>(hat y hy).sub T1;generalize σ.set U (.tup [.bytes (D++[10]),.ref A])=σ1 at*;change WB (Ie) (k+15) [x0,some (.ref P),x2,some (.int way),some (.ref Wd),x5,x6,some (.bytes (D++[10])),some (.ref A),none,none,none,none,none,none,none,none,none,none,none,none,none] σ1;show gf ?_;rw[dI] at hA1;show ak (i:=0) hA1 rfl zd ?_;show f0 (i:=0) (.inl (hat1 x bJ).t) rfl zd ?_;rw[<-dI (f:=fun y:LS=>AV.ref y.t)] at hA1;change WB (Id) (k+15) [x0,some (.ref P),x2,some (.int way),some (.ref Wd),x5,x6,some (.bytes (D++[10])),some (.ref A),some (.int x.p),none,none,none,none,none,none,none,none,none,none,none,none] σ1;show Ep ?_;have lr:(x::r).length<=10:=Nat.le_trans hr zd;have hp6:x.p<10^6:=zo;have enc:(bd (az x.p)).cps.toList.map (·.toUInt8)=az x.p:=s8 _;have lz:(az x.p).length<=6:=aW zd hp6;show Br.mk (fun hv=>?_) (fun hv=>?_)
 . have h1:way=1:=by have:=GH hv;lia
   rw[eM h1] at h;show xd (-1) (fun c s' m Q hn hl hq=>Ff hq) ?_;change _/\_;show⟨rfl,?_⟩;show QV W h.ok h.ch h.dec zo lr
 have h1:way≠1:=fun e=>by subst e;show absurd hv zd
 rw[dr h1] at h kf;change WB (Ic) (k+15) [x0,some (.ref P),x2,some (.int way),some (.ref Wd),x5,x6,some (.bytes (D++[10])),some (.ref A),some (.int x.p),none,none,none,none,none,none,none,none,none,none,none,none] σ1;show Ep ?_;show Br.mk (fun hv=>?_) (fun hv=>?_)
 . show gf ?_;show mJ x.p (tq hp6 zd) ?_;show mH ?_;show s7 (fun c hc=>nj (fun c hc=>qd (dp _ c hc)) c hc) (by rw[fx];lia) ?_;rw[enc];show⟨by simp;lia,?_⟩;show⟨by simp;lia,?_⟩;change WB _ (k+15) [x0,some (.ref P),x2,some (.int way),some (.ref Wd),x5,x6,some (.bytes (D++[10])),some (.ref A),some (.int x.p),some (.bytes (og++az x.p++Dd)),none,none,none,none,none,none,none,none,none,none,none] σ1;show xd (-1) (fun c s' m Q hn hl hq=>Ff hq) ?_;change _/\_;show⟨rfl,?_⟩;show⟨by rw[j7,j7,j7];change D.length+1+(og.length+_+Dd.length)<=_;delta og Dd;simp;lia,?_⟩;show am zu ?_;show QU W hp6 zu
 change WB (Ib) (k+15) [x0,some (.ref P),x2,some (.int way),some (.ref Wd),x5,x6,some (.bytes (D++[10])),some (.ref A),some (.int x.p),none,none,none,none,none,none,none,none,none,none,none,none] σ1;show Ep ?_;show Br.mk (fun hv=>?_) (fun hv=>?_)
 . have lg:(D++[10]).length+1<10^6:=by rw[j7,LY];lia
   have enc:(bd (az ((D++[10]).length+1))).cps.toList.map (·.toUInt8)=az ((D++[10]).length+1):=s8 _;have lz:(az ((D++[10]).length+1)).length<=6:=aW zd lg;show gf ?_;show am zu ?_;change WB _ (k+15) [x0,some (.ref P),x2,some (.int way),some (.ref Wd),x5,x6,some (.bytes (D++[10])),some (.ref A),some (.int x.p),none,some (.int ((D++[10]).length+1:Nat)),none,none,none,none,none,none,none,none,none,none] σ1;show gf ?_;show mJ ((D++[10]).length+1) (tq lg zd) ?_;show mH ?_;show s7 (fun c hc=>nj (fun c hc=>qd (dp _ c hc)) c hc) (by rw[fx];lia) ?_;rw[enc];show⟨by rw[fF];simp only [fF,List.length_nil];lia,?_⟩;show⟨by rw[j7];simp only [fF,List.length_nil];lia,?_⟩;change WB _ (k+15) [x0,some (.ref P),x2,some (.int way),some (.ref Wd),x5,x6,some (.bytes (D++[10])),some (.ref A),some (.int x.p),none,some (.int ((D++[10]).length+1:Nat)),some (.bytes (og++az ((D++[10]).length+1)++[32,62,62,10])),none,none,none,none,none,none,none,none,none] σ1;show xd (((D++[10]).length+1:Nat):Int) (fun c s' m Q hn hl hq=>Kc hn hl (i:=11) rfl rfl rfl hq) ?_;change _/\_;show⟨rfl,?_⟩;show⟨?_,?_⟩
   . change(D++[10]).length+(og++az ((D++[10]).length+1)++[32,62,62,10]).length<=_
     delta og
     simp only [j7,fF,List.length_nil] at lz⊢;lia
   show Nl W zu
 . show QT (IL W hA1 hat1 h.ok h.ch h.dec zo hr kf)
theorem De (W:WW) {A P L Wd:Addr} {D:LU} {m way:Nat} {bf0:Option Nat} {x0:Option AV} (e:bf0=if way=1 then some 9999 else none) (hm:m<4) (h:Lw σ P L Wd A D [] bf0):
 WB (Ih) (k+15) [x0,some (.ref P),some (.int (1+m:Nat)),some (.int way),some (.ref Wd),some (Q6 bf0),none,none,none,none,none,none,none,none,none,none,none,none,none,none,none,none] σ:=by
 have hb:∀p,bf0=some p->p<10^6:=fun p hp=>by
  rw[e] at hp;split at hp
  . cases hp;decide
  . cases hp
 show gf ?_;show jL fun R hR=>?_;have T:=AS.Sub.set (o:= .rng 0 ((1+m:Nat):Int) 1) hR;show aL (h.C.add (o:= .rng 0 ((1+m:Nat):Int) 1) hR) fun S1 a1=>?_;have h1:Lw (σ.set R (.rng 0 ((1+m:Nat):Int) 1)) P L Wd A D [] bf0:=⟨h.C.sub T,S1 _ _ h.a,aF,aF,h.ch,h.dec,h.len⟩;have hR1:(σ.set R (.rng 0 ((1+m:Nat):Int) 1)) R=some (.rng 0 ((1+m:Nat):Int) 1):=AS.UJ;generalize σ.set R (.rng 0 ((1+m:Nat):Int) 1)=σ1 at*;have er:vz ((0:Nat):Int) ((1+m:Nat):Int) 1=(List.range' 0 (1+m-0)).map fun i:Nat=>AV.int (i:Int):=q9;show eQ.of (dM (a:=((0:Nat):Int)) (BR zd zo) (by rw[tP];lia)) hR1 ?_;rw[er,Nat.sub_zero];show II W hb zo (1+m) 0 σ1 A D [] none h1 rfl zo a1 (fun e=>zo) fun UH A' D' x r x6 g1 g2 g3 g4=>?_;subst e;show IM W g1 zo g4
theorem Gz (W:WW) {p:Addr} {ns:List Int} (h:tu Ω σ p (.list (ns.map .int))) (hz:ns.length<=1000):lN Ω (k+16) (.ref 1877) [.ref p] σ (.bool true):=by
 show Nj W Im (QL W) rfl zd ?_;change WB (Il) (k+15) _ σ;show gf ?_;show Go W h hz fun P L σ1 S1 hp=>?_;change WB (Ik) (k+15) [some (.ref p),some (.ref P),none,none,none,none,none,none,none,none,none,none,none,none,none,none,none,none,none,none,none,none] σ1;show gf ?_;show tj W 4 hp zd zd fun m σ2 hm p2 K2=>?_;show tj W 6 p2 zd zd fun way σ3 hw p3 K3=>?_;show⟨zl,?_⟩;intro U hU;have T4:=AS.Sub.set (o:= .tup [.int (1+m),.int way]) hU;have p4:=p3.kp (N:=[]) (Kp.sub T4) nofun nofun
 show aD AS.UJ ⟨rfl,?_⟩;generalize σ3.set U (.tup [.int (1+m),.int way])=σ4 at*;change WB (Ij) (k+15) [some (.ref p),some (.ref P),some (.int (1+m:Nat)),some (.int way),none,none,none,none,none,none,none,none,none,none,none,none,none,none,none,none,none,none] σ4;show gf ?_;show⟨zl,?_⟩;intro A hA;have T5:=AS.Sub.set (o:= .list []) hA;have p5:=p4.kp (N:=[]) (Kp.sub T5) nofun nofun
 have hA5:(σ4.set A (.list [])) A=some (.list []):=AS.UJ;show eg (id p4.ex) fun ns5 c5 v5 q1 q2 _=>?_;have nAP:A≠P:=fun e=>by rw[e,q1] at hA;cases hA
 have nAL:A≠L:=fun e=>by rw[e,q2] at hA;cases hA
 generalize σ4.set A (.list [])=σ5 at*;show⟨zl,?_⟩;intro Wd hWd;have T6:=AS.Sub.set (o:= .list [.bytes [37,80,68,70,45,49,46,55,10,37,120],.ref A]) hWd;have p6:=p5.kp (N:=[]) (Kp.sub T6) nofun nofun
 have hA6:=T6 _ _ hA5;have hW6:(σ5.set Wd (.list [.bytes [37,80,68,70,45,49,46,55,10,37,120],.ref A])) Wd=some (.list [.bytes [37,80,68,70,45,49,46,55,10,37,120],.ref A]):=AS.UJ;show eg (id p5.ex) fun ns6 c6 v6 q3 q4 _=>?_;have nWP:Wd≠P:=fun e=>by rw[e,q3] at hWd;cases hWd
 have nWL:Wd≠L:=fun e=>by rw[e,q4] at hWd;cases hWd
 have nAW:A≠Wd:=fun e=>by rw[<-e,hA5] at hWd;cases hWd
 generalize σ5.set Wd (.list [.bytes [37,80,68,70,45,49,46,55,10,37,120],.ref A])=σ6 at*;show⟨zl,?_⟩;intro V hV;have T7:=AS.Sub.set (o:= .tup [.ref Wd,.none]) hV;have p7:=p6.kp (N:=[]) (Kp.sub T7) nofun nofun
 have hA7:=T7 _ _ hA6;have hW7:=T7 _ _ hW6;show aD AS.UJ ⟨rfl,?_⟩;generalize σ6.set V (.tup [.ref Wd,.none])=σ7 at*;have lw:∀bf0,Lw σ7 P L Wd A [37,80,68,70,45,49,46,55,10,37,120] [] bf0:=fun bf0=>⟨⟨p7,hW7,nWP,nWL⟩,(AS.out_not (by simp [nAP,nAL,nAW])).trans hA7,nofun,nofun,trivial,.nil,zd⟩;change WB (Ii) (k+15) [some (.ref p),some (.ref P),some (.int (1+m:Nat)),some (.int way),some (.ref Wd),some .none,none,none,none,none,none,none,none,none,none,none,none,none,none,none,none,none] σ7;show gf ?_;show Br.mk (fun hv=>?_) (fun hv=>?_)
 . have h1:way=1:=by have:=GH hv;lia
   show De W (bf0:=some 9999) (by rw[eM h1]) hm (lw _)
 . have h1:way≠1:=fun e=>by subst e;show absurd hv zd
   show De W (bf0:=none) (by rw[dr h1]) hm (lw _)
theorem Nm (P:Params):nsIn (KK P) mainGlobals "law"=some (some (.ref 1877)):=zk
theorem zt {R:WRecords}:∀{xs:List WData},WShape.hasItems R xs .int=true->∃ns:List Int,xs=ns.map .int
 | [],_=>⟨[],rfl⟩
 | x::xs,h=>by
  have h':(WShape.has R x .int&&WShape.hasItems R xs .int)=true:=by simpa [WShape.hasItems] using h
  rw[nH] at h';show aw (hasW_int h'.1) fun n hr1=>?_;rw[hr1];show aw (zt h'.2) fun ns hr1=>?_;rw[hr1];show⟨n::ns,rfl⟩
theorem GA {P:Params} {h:Heap} {ns:List Int}:∀{vs:List Value},WellAll P h vs (ns.map .int)->vs.map er=ns.map .int:=by
 induction ns with
 | nil=>intro vs x;cases x;rfl
 | cons n ns ih=>
  intro vs x;have x:WellAll P h vs (.int n::ns.map .int):=x;cases x with
  | cons a b=>
   cases a;rw[dI,ih b];rfl
noncomputable abbrev Kh:RowW:=PySem.Challenge.rw_nn0180_01.row.toRowW
theorem Ki {ns:List Int} (h:Kh.pre.holds Kh.records {args:=[.list (ns.map .int)]}=true):ns.length<=1000:=by
 have e:Kh.pre= .and (.not (.lt (.lit (.int 63)) (.len (.arg 0)))) (.lit (.bool true)):=rfl;rw[e] at h;by_cases hl:ns.length<=63
 . lia
 . exfalso;have hlt:(63:Int)<(ns.length:Int):=zo;show ff ((holdsW_of_value (X:=false) (by simp [WTm.value,less?,Num.less?,hlt])).symm.trans h)
theorem GD {P:Params} {h:Heap} {args:List Value} {xs:List WData} (H:WellAll P h args [.list xs]):∃p vs,args=[.ref p]/\h.get? p=some {cls:= .type "list",data:= .seq vs.toArray}/\WellAll P h vs xs:=by
 cases H with
 | cons hv hn=>
  cases hn;cases hv with
  | @list p vs _ hp hvs=>show⟨p,vs,rfl,hp,hvs⟩
theorem Kj {α:Type} {o:α} {G:Prop} (h:(none:Option α)=some o):G:=by cases h
theorem walk:Ex KK:=by
 intro w s₀ UB mg mb G Y a o pm cd doc dV kV ho hd hcr hdf hmg hgens args vals as hpre hlay hrd hwell hlow;have W:Dj ⟨pw,w,UB.heap⟩ mg mb:=⟨Y,topRead_of G.T⟩;clear hlow hrd hlay hdf hcr hd ho;have e1:Bl.name="law":=defOf_name Ew;rw[e1] at hmg;have e2:=mg_of W.inK W.top.g (Nm w.params);rw[e2] at hmg;obtain rfl:=Value.ref.inj (ql hmg);show aL (pre_splitW (r:=Kh) hpre) fun h1 h2=>?_;show aH (hasAllW_cons h1) fun d r hr2 h3 h4=>?_;subst hr2;obtain rfl:=hasAllW_nil h4;show ae (hasW_list h3) fun xs hr1 h5=>?_;subst hr1;show aw (zt h5) fun ns hr1=>?_;subst hr1;have hn:=Ki h2;show aH (GD hwell) fun p vs ep hp hvs=>?_;subst ep;have hAt:tu ⟨pw,w,UB.heap⟩ (fun _=>none) p (.list (ns.map .int)):= .inr ⟨_,hp,vs.toArray,0,rfl,by simpa using GA hvs⟩;have mods:∃o,UB.heap.get? sysModules=some o:=by
  have q:((KK w.params).lookup sysModules).isSome=true:=zk;show aw (Option.isSome_iff_exists.mp q) fun o ho=>?_;show⟨o,W.inK _ o ho⟩
 have J:=(My (fun W _ _=>Gz (k:=0) W) (⟨pw,w,UB.heap⟩,mg,mb) W p ns hAt hn).run callerA [] ⟨UB.heap.get?,UB.os⟩ UB (.ref 1877) [.ref p] rfl rfl ⟨by decide+kernel,by decide+kernel⟩ ⟨fun _ _ e=>e,fun _ h=>absurd h List.not_mem_nil,mods⟩ ⟨fun _ _ e=>e,fun _ _ e=>Kj e,rfl,hgens⟩ rfl rfl;show dw J (fun v s' ⟨ev,hb,hos,hg,_⟩=>?_) fun _ _ z=>z.elim;cases v<;>cases ev;show⟨.inl ⟨_,_,[],rfl,fun _=>rfl,ReadsW.bool true,by wrow_post,fun _=>⟨List.nodup_nil,fun _ hm=>absurd hm List.not_mem_nil⟩⟩,OldK.of_keep hb,hos,AllBare.of_eq hg⟩
end
end Mine
theorem PySem.Challenge.cw_nn0180_01_holds : PySem.Challenge.rw_nn0180_01.Holds := by
 exact Mine.head Mine.KK Mine.KA Mine.KA_eq Mine.runEnds Mine.walk
