import PyProof.Rows.All
import Wide.All
import OpenK.AllK
import Wide.FinOn
import KE.KDictOf
import PyProof.SliceMore
import Wide.Seal
import PySem.Challenge.RW_pq1109_01
set_option Elab.async false
set_option maxRecDepth 100000
set_option linter.all false
set_option maxHeartbeats 0
set_option genSizeOf false
set_option genCtorIdx false
set_option genInjectivity false
set_option tactic.hygienic false
set_option backward.match.sparseCases false
set_option compiler.extract_closed false
local macro_rules |`(⋯)=>`(by first|kernel_rfl|decide)
local macro_rules (kind:=«term{_}»)|`({$x,*})=>`(⟨$x,*⟩)
noncomputable section
section
open PySem PySem.W PyProof.Rows PySem.Calls PySem.SeqAt PySem.StrLaws
namespace PQ
noncomputable section
noncomputable abbrev P:=PySem.Challenge.pw_pq1109_01
noncomputable def N:Value:=.none
noncomputable def B(b:Bool):Value:=.bool b
noncomputable def I(i:Int)(t:Nat):Value:=.int i t
noncomputable def R(a:Nat):Value:=.ref a
noncomputable def S(s:String)(t:Nat):Value:=.str (Str.ofString s) t
noncomputable def T(s:String):Value:=.type s
noncomputable def U(s:String):Value:=.builtin s
noncomputable def E(p:Params)(k:String)(t:Nat)(v:Value):DictEntry:=⟨PyData.keyHash p (Str.ofString k),.str (Str.ofString k) t,v⟩
noncomputable def aY:List Stmt->Nat->Stmt
 | [],_=> .Pass ⟨0,0,0,0⟩
 | s::_,0=>s
 | _::r,n+1=>aY r n
noncomputable def st(i:Nat):Stmt:=aY P.main.body i
noncomputable def kg:Stmt->List Stmt
 | .ClassDef _ _ _ b _ _ _ _ _ _ _=>b
 | _=> []
noncomputable def cst(i j:Nat):Stmt:=aY (kg (st i)) j
noncomputable def FD(s:Stmt)(qual:Str)(globals:Nat)(kc mod code:Value):FuncData:=match s with
 | .FunctionDef name args body _ _ _ scope _ _ _=>{name,qualname:=qual,params:=args,body:=.stmts body,scope,globals,closure:= [],defaults:=kc,kwdefaults:=N,doc:=N,pyModule:=mod,annotations:=none,code,closureTuple:=N,builtins:=0}
 | _=>default
noncomputable def d8(i n:Nat):List Stmt:=(P.main.body.drop i).take n
noncomputable def tp(l:List Value):Obj:=⟨T "tuple",none,.seq ⟨l⟩ 0,#[]⟩
noncomputable def fl(l:List Value):Obj:=⟨N,none,.fields ⟨l⟩,#[]⟩
noncomputable def fx(s:String)(l:List Value):Obj:=⟨T s,none,.fields ⟨l⟩,#[]⟩
noncomputable def bt(s:String)(v:Value):Obj:=fx "builtin_function_or_method" [U s,v]
noncomputable def dc(l:List DictEntry)(n:Nat):Obj:=⟨T "dict",none,.dict ⟨l⟩ n,#[]⟩
noncomputable def fr(c d:Nat)(m:Value):Obj:=⟨T "frame",none,.plain,#[some (R c),some (R 3),some (R d),none,some m,none,some (R 0)]⟩
noncomputable def fc(n q:Value)(t:Nat)(l ac fg a:Nat)(b:Bool)(vs:List Value)(e:Nat):Obj:=fx "code" ([n,q,S "/claim/cut.py" t,I l 0,I ac 0,I 0 0,I 0 0,I fg 0,R a,B b,I 181 0,R (a+1),N]++vs++ [I e 0,I l 0,S "/claim/cut.py" (e+1)])
noncomputable def cc(s:String)(t l a:Nat):Obj:=fc (S s t) (S s (t+1)) (t+2) l 0 0 a false [N,N,N] (t+3)
noncomputable def ty(n:String)(bs mro:List Value)(d:Nat)(subs:List Value)(s0:Option Value)(t1 t2:Nat)(nw:String):Obj:=⟨T "type",none,.cls ⟨Str.ofString n,bs,mro,d,Str.ofString n,true,[],subs,false,none,false⟩,#[s0,none,some (S n t1),some (S n t2),some (U nw),some (B true)]⟩
noncomputable def PI(t:Nat):List Str->List Value
 | []=> []
 | x::r=> .str x t::PI (t+1) r
noncomputable def zeros(t:Nat):List Expr->List Value
 | []=> []
 | _::r=>I 0 t::zeros (t+1) r
noncomputable def gF(pre:String)(m:Value)(s:Stmt)(a t:Nat):List Obj×Nat×Nat:=match s with
 | .FunctionDef name args body _ _ _ scope _ _ pos=>
  let d:=args.defaults.length
  let k:=cond (d==0) 0 1
  let q:=Str.ofString pre++name
  let b:=a+k
  let u:=t+d
  let dv:=cond (d==0) N (R a)
  let go (x:List Obj) (vs:List Value) (n c:Nat):List Obj×Nat×Nat:=(cond (d==0) [] [tp (zeros t args.defaults)]++ [tp [],fl []]++x++ [⟨N,none,.func (FD s q 0 N N N),#[]⟩,fc (.str name u) (.str q (u+1)) (u+2) pos.line args.args.length 3 b true (vs++ [R (c-1)]) (u+3+n),⟨T "function",none,.func (FD s q 3 dv m (R c)),#[]⟩],k+(c+2-b),d+n+6)
  let vn:=(scope.names.filter λ x=>x.2== .local).map (·.1)
  cond ([495,514,617,623,636,643,699,723,729,861,869,915,923,942].contains pos.line) (go [] [N,N] 0 (b+3)) (go [tp (PI (u+3) vn),tp []] [R (b+2),R (b+3)] vn.length (b+5))
 | _=>([],0,0)
noncomputable def Qw:Stmt->Str
 | .FunctionDef name ..=>name
 | _=>Str.empty
noncomputable def ln:Stmt->Pos
 | .FunctionDef _ _ _ _ _ _ _ _ _ pos=>pos
 | _=>⟨0,0,0,0⟩
noncomputable def gs(pre:String)(m:Value):List Stmt->Nat->Nat->List Obj
 | [],_,_=> []
 | s::r,a,t=>(gF pre m s a t).1++gs pre m r (a+(gF pre m s a t).2.1) (t+(gF pre m s a t).2.2)
noncomputable def es(p:Params):List Stmt->Nat->Nat->List DictEntry
 | [],_,_=> []
 | s::r,a,t=>
  let z:=(gF "" N s a t).2
  ⟨PyData.keyHash p (Qw s),.str (Qw s) (t+z.2-1),R (a+z.1-1)⟩::es p r (a+z.1) (t+z.2)
noncomputable def pl:List Stmt->Nat->Nat->List Value
 | [],_,_=> []
 | s::r,a,t=>
  let z:=(gF "" N s a t).2
  I (ln s).line 0::I (ln s).col 0::R (a+z.1-2)::pl r (a+z.1) (t+z.2)
noncomputable def lf:Life:={}
noncomputable def md(p:Params)(v:Value)(k n:Nat)(o:Obj):Obj:=match o with
 | ⟨c,d,.dict es _,sl⟩=>⟨c,d,.dict (match es.toList.take k with | e::r=>({e with val:=v}::r).toArray | []=> #[]) n,sl⟩
 | o=>o
noncomputable def ct(k:Nat)(o:Obj):Obj:=match o with
 | ⟨c,d,.fields es,sl⟩=>⟨c,d,.fields (es.toList.take k).toArray,sl⟩
 | o=>o
noncomputable def wf(l:List Value):Obj:=ty "WallFault" [T "Exception"] [R 31,T "Exception",T "BaseException",T "object"] 30 l (some (R 15)) 189 197 "Exception.__new__"
noncomputable def F9:Bool->List Obj->List Obj
 | _,[]=> []
 | true,a::r=>a::F9 false r
 | false,_::r=>F9 true r
noncomputable def K6:Nat->List Obj->BT
 | 0,_=> .nil
 | _,[]=> .nil
 | n+1,o::r=> .node o (K6 n (F9 true r)) (K6 n (F9 false r))
noncomputable def objs(p:Params):List Obj:=
 [boot_o_0 p,boot_o_1 p,⟨N,none,.dict #[E p "type.__subclasses__.Exception.0" 215 (I 31 0),E p "type.__subclasses__.Exception.n" 216 (I 1 0)] 2,#[]⟩,dc ([E p "__name__" 165 (S "law_pq1109_01" 1029),E p "__doc__" 166 N,E p "__package__" 167 N,E p "__loader__" 168 (U "__main__.__loader__#opaque"),E p "__spec__" 169 N,E p "__annotations__" 170 (R 6),E p "__builtins__" 171 (R 4),E p "__file__" 173 (S "/claim/cut.py" 172),E p "__cached__" 174 N,E p "WallFault" 218 (R 31),E p "Misused" 234 (R 44),E p "BadText" 264 (R 64)]++es p (d8 5 9) 67 267++es p (d8 15 1) 130 368++es p (d8 17 13) 137 379++es p (d8 31 2) 228 512++ [E p "Reader" 637 (R 322)]++es p (d8 34 2) 327 638++es p (d8 37 21) 341 657++es p (d8 59 12) 489 859++es p (d8 72 3) 569 960++ [E p "Tongue" 1028 (R 606)]++es p (d8 78 57) 611 1031) 134,boot_o_4 p,boot_o_5 p,boot_o_6 p,boot_o_7 p,boot_o_8 p,boot_o_9 p,boot_o_10 p,tp [],fl ([I 2 0,I 0 0,R 20,I 8 0,I 0 0,R 40,I 10 0,I 0 0,R 52]++pl (d8 5 9) 67 267++pl (d8 15 1) 130 368++pl (d8 17 13) 137 379++pl (d8 31 2) 228 512++ [I 266 0,I 0 0,R 247]++pl (d8 34 2) 327 638++pl (d8 37 21) 341 657++pl (d8 59 12) 489 859++pl (d8 72 3) 569 960++ [I 593 0,I 0 0,R 595]++pl (d8 78 57) 611 1031),cc "<module>" 182 1 11,fr 13 3 (S "__main__" 164),tp [T "Exception"],bt "type.__prepare__" (T "type"),dc [E p "__module__" 196 (S "siftwall.faults" 187),E p "__qualname__" 198 (S "WallFault" 197),E p "__firstlineno__" 200 (I 2 199),E p "__init__" 208 (R 28),E p "__static_attributes__" 211 (R 29)] 5,tp [],fl [I 4 0,I 4 0,R 27],cc "WallFault" 191 2 18,fr 20 17 (S "siftwall.faults" 187)]++
 gs "WallFault." (S "siftwall.faults" 187) (kg (st 1)) 22 201++
 [tp [S "at" 209,S "why" 210],dc [E p "__module__" 196 (S "siftwall.faults" 187),E p "__firstlineno__" 200 (I 2 199),E p "__init__" 208 (R 28),E p "__static_attributes__" 211 (R 29),E p "__weakref__" 213 (R 32),E p "__doc__" 214 N] 3,wf [R 44,R 64],fx "getset_descriptor" [S "__weakref__" 212,R 31,U "ExceptionGroup.__weakref__",N],fx "super" [R 31,R 31,R 31],bt "object.__init_subclass__" (R 31),tp [R 31],bt "type.__prepare__" (T "type"),dc [E p "__module__" 226 (S "siftwall.faults" 187),E p "__qualname__" 228 (S "Misused" 227),E p "__firstlineno__" 230 (I 8 229),E p "__static_attributes__" 231 (R 42)] 4,tp [],fl [],cc "Misused" 221 8 38,fr 40 37 (S "siftwall.faults" 187),tp [],dc [E p "__module__" 226 (S "siftwall.faults" 187),E p "__firstlineno__" 230 (I 8 229),E p "__static_attributes__" 231 (R 42),E p "__doc__" 232 N] 2,ty "Misused" [R 31] [R 44,R 31,T "Exception",T "BaseException",T "object"] 43 [] (some (R 35)) 219 227 "Exception.__new__",fx "super" [R 44,R 44,R 44],bt "object.__init_subclass__" (R 44),tp [R 31],bt "type.__prepare__" (T "type"),dc [E p "__module__" 242 (S "siftwall.faults" 187),E p "__qualname__" 244 (S "BadText" 243),E p "__firstlineno__" 246 (I 10 245),E p "__init__" 258 (R 61),E p "__static_attributes__" 261 (R 62)] 5,tp [],fl [I 12 0,I 4 0,R 60],cc "BadText" 237 10 50,fr 52 49 (S "siftwall.faults" 187)]++
 gs "BadText." (S "siftwall.faults" 187) (kg (st 3)) 54 247++
 [tp [S "column" 259,S "row" 260],dc [E p "__module__" 242 (S "siftwall.faults" 187),E p "__firstlineno__" 246 (I 10 245),E p "__init__" 258 (R 61),E p "__static_attributes__" 261 (R 62),E p "__doc__" 262 N] 2,ty "BadText" [R 31] [R 64,R 31,T "Exception",T "BaseException",T "object"] 63 [] (some (R 47)) 235 243 "Exception.__new__",fx "super" [R 64,R 64,R 64],bt "object.__init_subclass__" (R 64)]++
 gs "" (S "siftwall.addresses" 265) (d8 5 9) 67 267++
 gs "" (S "siftwall.octets" 366) (d8 15 1) 130 368++
 gs "" (S "siftwall.types" 377) (d8 17 13) 137 379++
 gs "" (S "siftwall.tokens" 510) (d8 31 2) 228 512++
 [tp [],bt "type.__prepare__" (T "type"),dc ([E p "__module__" 535 (S "siftwall.tokens" 510),E p "__qualname__" 537 (S "Reader" 536),E p "__firstlineno__" 539 (I 266 538)]++es p (kg (st 33)) 249 540++ [E p "__static_attributes__" 630 (R 320)]) 14,tp [],fl (pl (kg (st 33)) 249 540),cc "Reader" 530 266 245,fr 247 244 (S "siftwall.tokens" 510)]++
 gs "Reader." (S "siftwall.tokens" 510) (kg (st 33)) 249 540++
 [tp [S "at" 624,S "family" 625,S "known" 626,S "table" 627,S "tokens" 628,S "tongue" 629],dc ([E p "__module__" 535 (S "siftwall.tokens" 510),E p "__firstlineno__" 539 (I 266 538)]++es p (kg (st 33)) 249 540++ [E p "__static_attributes__" 630 (R 320),E p "__dict__" 632 (R 323),E p "__weakref__" 634 (R 324),E p "__doc__" 635 N]) 4,ty "Reader" [T "object"] [R 322,T "object"] 321 [] (none) 528 536 "object.__new__",fx "getset_descriptor" [S "__dict__" 631,R 322,U "function.__dict__",U "function.__dict__#set"],fx "getset_descriptor" [S "__weakref__" 633,R 322,U "ExceptionGroup.__weakref__",N],fx "super" [R 322,R 322,R 322],bt "object.__init_subclass__" (R 322)]++
 gs "" (S "siftwall.tokens" 510) (d8 34 2) 327 638++
 gs "" (S "siftwall.readexpr" 655) (d8 37 21) 341 657++
 gs "" (S "siftwall.readmade" 857) (d8 59 12) 489 859++
 gs "" (S "siftwall.readbook" 958) (d8 72 3) 569 960++
 [tp [],bt "type.__prepare__" (T "type"),dc [E p "__module__" 1005 (S "siftwall.fields" 996),E p "__qualname__" 1007 (S "Tongue" 1006),E p "__firstlineno__" 1009 (I 593 1008),E p "__init__" 1018 (R 603),E p "__static_attributes__" 1021 (R 604)] 5,tp [],fl [I 595 0,I 4 0,R 602],cc "Tongue" 1000 593 593,fr 595 592 (S "siftwall.fields" 996)]++
 gs "Tongue." (S "siftwall.fields" 996) (kg (st 76)) 597 1010++
 [tp [S "fields" 1019,S "types" 1020],dc [E p "__module__" 1005 (S "siftwall.fields" 996),E p "__firstlineno__" 1009 (I 593 1008),E p "__init__" 1018 (R 603),E p "__static_attributes__" 1021 (R 604),E p "__dict__" 1023 (R 607),E p "__weakref__" 1025 (R 608),E p "__doc__" 1026 N] 4,ty "Tongue" [T "object"] [R 606,T "object"] 605 [] (none) 998 1006 "object.__new__",fx "getset_descriptor" [S "__dict__" 1022,R 606,U "function.__dict__",U "function.__dict__#set"],fx "getset_descriptor" [S "__weakref__" 1024,R 606,U "ExceptionGroup.__weakref__",N],fx "super" [R 606,R 606,R 606],bt "object.__init_subclass__" (R 606)]++
 gs "" (S "law_pq1109_01" 1029) (d8 78 57) 611 1031
noncomputable def tf(p:Params):BT:=K6 10 (objs p)
noncomputable def hZ(l:List Obj)(i:Nat):Obj:=l.getD i ⟨N,none,.plain,#[]⟩
noncomputable def tr(m:Value)(k c:Nat)(p:Params):BT:=((tf p).set 3 (md p m k k)).set 12 (ct c)
noncomputable def sh(t:Params->BT)(n d:Nat)(w:World)(os:OsState):SharedT:=⟨t w.params,n,lf,#[],boot_drawn,d,os⟩
noncomputable def ss(a n:Nat):List Stmt:=((behindTheImports P).drop a).take n
noncomputable def PN:=sh (λ p=>(tr (S "__main__" 164) 9 0 p).set 2 λ ζ=>⟨N,none,.dict #[] 0,#[]⟩) 15 187
noncomputable def P9:=sh (λ p=>(tr (S "siftwall.faults" 187) 10 3 p).set 31 λ ζ=>wf []) 35 219
noncomputable def P2:=sh (λ p=>(tr (S "siftwall.faults" 187) 11 6 p).set 31 λ ζ=>wf [(R 44)]) 47 235
noncomputable def PZ:=sh (tr (S "siftwall.addresses" 265) 17 24) 102 325
noncomputable def PY:=sh (tr (S "siftwall.types" 377) 30 63) 193 454
noncomputable def PX:=sh (tr (S "siftwall.tokens" 510) 37 84) 242 528
noncomputable def PW:=sh (tr (S "siftwall.tokens" 510) 38 87) 327 638
noncomputable def PV:=sh (tr (S "siftwall.readexpr" 655) 52 129) 425 762
noncomputable def PU:=sh (tr (S "siftwall.readmade" 857) 65 168) 517 889
noncomputable def PT:=sh (tr (S "siftwall.fields" 996) 76 201) 590 998
noncomputable def PO:=sh (tr (S "law_pq1109_01" 1029) 84 225) 658 1085
noncomputable def JV:=sh (tr (S "law_pq1109_01" 1029) 98 267) 750 1211
noncomputable def JU:=sh (tr (S "law_pq1109_01" 1029) 112 309) 842 1329
noncomputable def JT:=sh (tr (S "law_pq1109_01" 1029) 126 351) 932 1463
noncomputable def C6:=sh tf 986 1524
noncomputable def JQ:=ss 0 2
noncomputable def JP:=ss 2 1
noncomputable def JO:=ss 3 7
noncomputable def JN:=ss 10 15
noncomputable def JM:=ss 25 8
noncomputable def JL:=ss 33 1
noncomputable def JK:=ss 34 15
noncomputable def JJ:=ss 49 14
noncomputable def JI:=ss 63 13
noncomputable def JH:=ss 76 9
noncomputable def CX:=ss 85 14
noncomputable def CW:=ss 99 14
noncomputable def CV:=ss 113 14
noncomputable def CU:=ss 127 8
noncomputable def Qo:Pos:=⟨2,0,7,20⟩
noncomputable def Qn:Pos:=⟨8,0,9,8⟩
noncomputable def Qm:Pos:=⟨65,0,82,17⟩
noncomputable def Ql:Pos:=⟨180,0,190,52⟩
noncomputable def Qk:Pos:=⟨263,0,265,43⟩
noncomputable def Qj:Pos:=⟨266,0,316,47⟩
noncomputable def Qi:Pos:=⟨381,0,382,37⟩
noncomputable def Qh:Pos:=⟨484,0,488,13⟩
noncomputable def Qg:Pos:=⟨592,0,592,8⟩
noncomputable def Qe:Pos:=⟨619,0,620,327⟩
noncomputable def Ks:Pos:=⟨681,0,683,44⟩
noncomputable def Kr:Pos:=⟨765,0,771,15⟩
noncomputable def Kq:Pos:=⟨923,0,924,131⟩
noncomputable def Ko:Pos:=⟨964,0,972,15⟩
noncomputable def a2(p:Params):Obj:=boot_o_2 p
noncomputable def a3(p:Params):Obj:=boot_o_3 p
noncomputable def Tj(p:Params):Obj:=⟨N,none,.fields #[],#[]⟩
noncomputable def ha(p:Params):Heap:=⟨#[(hZ (objs p) 0),(hZ (objs p) 1),a2 p,a3 p,(hZ (objs p) 4),(hZ (objs p) 5),(hZ (objs p) 6),(hZ (objs p) 7),(hZ (objs p) 8),(hZ (objs p) 9),(hZ (objs p) 10),(hZ (objs p) 11),Tj p,(hZ (objs p) 13),(hZ (objs p) 14)],lf⟩
noncomputable def Ee:Env:={scope:=P.main.scope,locals:=mainNs,globals:=mainNs,cells:= [],code:=.ref 13,frame:=some 14}
noncomputable abbrev vI:Code:=.body (behindTheImports P) Ee
noncomputable abbrev BF:List Frame:= [topFrame ⟨0,0,0,0⟩]
end
theorem C_{p w n0 ann b n s t r}(h:PySem.W.Fast.tw10110043849684766642 PySem.W.Fast.tw14364793385576792824 p w n0 ann b n s t=r):segRunT treeTable p w n0 ann b n s t=r:=by
 rw [PySem.W.Fast.te10110043849684766642,PySem.W.Fast.te14364793385576792824];exact h
theorem v7{l env c p B}:piecesOf l env c p B=⟨(PySem.W.Fast.tw12563942051412417395 l env).wrap doneF deadEnd id id,c,p,B⟩:=by
 unfold piecesOf;rw [PySem.W.Fast.te12563942051412417395]
theorem bP{p w n0 ann b n s l env c p' B f s' c' q}(h:PySem.W.Fast.tw10110043849684766642 PySem.W.Fast.tw14364793385576792824 p w n0 ann b n s ⟨(PySem.W.Fast.tw12563942051412417395 l env).wrap doneF deadEnd id id,c,p',B⟩=some (f,s',c',q)):segRun treeTable p w n0 ann b n s.abs (piecesOf l env c p' B)=some (f,s'.abs,c',q):=by
 rw [v7];exact segRun_of (C_ h)
theorem vX{p w n0 ann n s t r}(h:PySem.W.Fast.tw14082659384304107361 PySem.W.Fast.tw14364793385576792824 p w n0 ann n s t=r):topRun treeTable p w n0 ann n s t=r:=by
 rw [PySem.W.Fast.te14082659384304107361,PySem.W.Fast.te14364793385576792824];exact h
noncomputable abbrev an:Option Value:=some (.ref 6)
noncomputable abbrev p0:Pos:=⟨0,0,0,0⟩
theorem N9:∀(w:World) (os:OsState),topGo treeTable P w 11 an 12 ⟨boot_heap w.params,Array.mk [],boot_drawn,boot_toks,os⟩ (topStub P)=some (⟨ha w.params,Array.mk [],boot_drawn,187,os⟩,⟨denote treeTable vI,vI,p0,BF⟩):=by
 intro w os;kernel_rfl
def PC(n:Nat)(a b:World->OsState->SharedT)(l:List Stmt)(p q:Pos):Prop:=∀w os,segRun treeTable P w 11 an 1 n (a w os).abs (piecesOf l Ee vI p BF)=some (.next,(b w os).abs,vI,q)
theorem Sj:∀(w:World) (os:OsState),segRun treeTable P w 11 an 1 1 ⟨ha w.params,Array.mk [],boot_drawn,187,os⟩ (blockOf (behindTheImports P) Ee vI p0 BF)=some (.next,(PN w os).abs,vI,p0):=by
 intro w os;kernel_rfl
theorem Su:PC 239 PN P9 JQ p0 Qo:=λ w os=>bP ⋯
theorem Ss:PC 214 P9 P2 JP Qo Qn:=λ w os=>bP ⋯
theorem Sr:PC 429 P2 PZ JO Qn Qm:=λ w os=>bP ⋯
theorem Sq:PC 430 PZ PY JN Qm Ql:=λ w os=>bP ⋯
theorem Sp:PC 236 PY PX JM Ql Qk:=λ w os=>bP ⋯
theorem So:PC 521 PX PW JL Qk Qj:=λ w os=>bP ⋯
theorem Sn:PC 440 PW PV JK Qj Qi:=λ w os=>bP ⋯
theorem Sm:PC 422 PV PU JJ Qi Qh:=λ w os=>bP ⋯
theorem Sl:PC 362 PU PT JI Qh Qg:=λ w os=>bP ⋯
theorem Sk:PC 440 PT PO JH Qg Qe:=λ w os=>bP ⋯
theorem Rq:PC 429 PO JV CX Qe Ks:=λ w os=>bP ⋯
theorem Ro:PC 421 JV JU CW Ks Kr:=λ w os=>bP ⋯
theorem Rn:PC 435 JU JT CV Kr Kq:=λ w os=>bP ⋯
theorem Rl:PC 236 JT C6 CU Kq Ko:=λ w os=>bP ⋯
theorem N_:∀(w:World) (os:OsState),topRun treeTable P w 11 an 2 (C6 w os).abs ⟨doneF .next,vI,Ko,BF⟩=some (C6 w os).abs:=by
 intro w os;refine vX ?_;kernel_rfl
theorem Cr:behindTheImports P=JQ++(JP++(JO++(JN++(JM++(JL++(JK++(JJ++(JI++(JH++(CX++(CW++(CV++(CU++ []))))))))))))):=⋯
theorem Km:∀(w:World) (os:OsState),topRun treeTable P w 11 an (12+(1+(239+(214+(429+(430+(236+(521+(440+(422+(362+(440+(429+(421+(435+(236+2)))))))))))))))) ⟨boot_heap w.params,Array.mk [],boot_drawn,boot_toks,os⟩ (topStub P)=some ⟨absHeap (tf w.params) 986 lf,Array.mk [],boot_drawn,1524,os⟩:=by
 intro w os;refine go_top (N9 w os) (piece_block (Sj w os) ?_);have h:=(piece_app (Su w os) (piece_app (Ss w os) (piece_app (Sr w os) (piece_app (Sq w os) (piece_app (Sp w os) (piece_app (So w os) (piece_app (Sn w os) (piece_app (Sm w os) (piece_app (Sl w os) (piece_app (Sk w os) (piece_app (Rq w os) (piece_app (Ro w os) (piece_app (Rn w os) (piece_app (Rl w os) (piece_nil (N_ w os))))))))))))))));rw [←Cr] at h;exact h
noncomputable section
noncomputable abbrev LW:OpenLaw:=PySem.Challenge.rw_pq1109_01
noncomputable def qv:Program:={P with main:={P.main with body:= [st 134]}}
noncomputable def loose:List Str:=P.boundNames.filter λ n=>n !=("law":Str) && !startupNames.contains n
noncomputable def Yf(s:Shared):Heap:=s.heap
noncomputable def Ya(w:World):Heap:=absHeap (tf w.params) 986 lf
noncomputable def XT:Shared->Bool:=λ ζ=>true
theorem Sv:∀w,(fencedOpening treeTable P w 12000).map (λ s=>(s.heap,s.gens,s.drawn,s.toks))=some (boot_heap w.params,Array.mk [],boot_drawn,boot_toks):=
 boot_open rfl rfl λ s=>rfl
theorem R8:∀w:World,((boot_heap w.params).isNs mainGlobals && (Array.mk []:Array GenState).size==0,(boot_heap w.params).objs.size,(boot_heap w.params).nsMap mainGlobals "__annotations__")=(true,11,an):=by
 intro w;kernel_rfl
theorem zQ{q loose mods Xt g0 s r}(h:PySem.W.Fast.tw4187177175401517315 q loose mods Xt g0 s=r):openSeen q loose mods Xt g0 s=r:=PySem.W.Fast.te4187177175401517315▸h
theorem SW:∀(w:World) (os:OsState),staticsOk (importedModules P.main.body) (boot_heap w.params) (absHeap (tf w.params) 986 lf)=true:=by intro w os;kernel_rfl
theorem SV:∀(w:World) (os:OsState),namesBound P (absHeap (tf w.params) 986 lf)=true:=by intro w os;kernel_rfl
theorem Tz:∀(w:World) (os),gensDone ⟨absHeap (tf w.params) 986 lf,Array.mk [],boot_drawn,1524,os⟩=true:=by intro w os;kernel_rfl
theorem SU:∀(w:World) (os:OsState),laidKept (boot_heap w.params) (absHeap (tf w.params) 986 lf)=true:=by intro w os;kernel_rfl
theorem SR:∀(w:World) (os:OsState),openSeen qv loose (importedModules P.main.body) XT true ⟨absHeap (tf w.params) 986 lf,Array.mk [],boot_drawn,1524,os⟩=openGood qv loose:=by
 intro w os;refine zQ ?_;kernel_rfl
theorem left:LeftO P qv loose XT Yf Ya 12000:=by
 refine LeftO.of_pieces (H₁:=λ p=>absHeap _ 986 lf) Sv R8 Km rfl ?_;intro w
 funext os
 simp only [SW w os,SV w os,SU w os,SR w os];rfl
end
noncomputable section
theorem l1:sreFenced LW.row.prog.main=true:=rfl
theorem l2:((moduleNames LW.row.prog.main.body).isEmpty || lookedIntoSs (moduleNames LW.row.prog.main.body) LW.row.prog.main.body)=true:=rfl
theorem l3:namesResolve LW.row.prog=true:=by rw [PySem.W.Fast.te8377067652309620493];kernel_rfl
theorem l4:(LW.row.prog.boundNames.all λ n=> !worldNames.contains n)=true:=⋯
theorem ux(lk):∀a b,noRoadLSs lk (a++b)=(noRoadLSs lk a && noRoadLSs lk b)
 | [],b=>rfl
 | s::a,b=>(congrArg _ (ux lk a b)).trans (Bool.and_assoc ..).symm
noncomputable def jF:Look:={strict:=false,foot:=none,bare:= []}
theorem SY:({strict:= !(importedModules LW.row.prog.main.body).all cThrough.contains,foot:=none,bare:=List.filter (readsOut LW.row.prog LW.row.prog.main.body) [Str.ofString "vars",Str.ofString "dir",Str.ofString "locals"]}:Look)=jF:=by
 rw [PySem.W.Fast.te13343964577679436407];kernel_rfl
theorem bS{lk l r}(h:PySem.W.Fast.tw8326940854005059898 lk l=r):noRoadLSs lk l=r:=PySem.W.Fast.te8326940854005059898▸h
theorem MW:LW.row.prog.main.body=behindTheImports P:=rfl
theorem RH:noRoadLSs jF JQ=true:=bS ⋯
theorem Tu:noRoadLSs jF JP=true:=bS rfl
theorem RG:noRoadLSs jF JO=true:=bS ⋯
theorem RF:noRoadLSs jF JN=true:=bS ⋯
theorem RE:noRoadLSs jF JM=true:=bS ⋯
theorem RD:noRoadLSs jF JL=true:=bS ⋯
theorem RC:noRoadLSs jF JK=true:=bS ⋯
theorem RB:noRoadLSs jF JJ=true:=bS ⋯
theorem RA:noRoadLSs jF JI=true:=bS ⋯
theorem Ry:noRoadLSs jF JH=true:=bS ⋯
theorem OS:noRoadLSs jF CX=true:=bS ⋯
theorem OR:noRoadLSs jF CW=true:=bS ⋯
theorem OQ:noRoadLSs jF CV=true:=bS ⋯
theorem OP:noRoadLSs jF CU=true:=bS ⋯
theorem l5:noRoadLSs {strict:= !(importedModules LW.row.prog.main.body).all cThrough.contains,foot:=none,bare:=List.filter (readsOut LW.row.prog LW.row.prog.main.body) [Str.ofString "vars",Str.ofString "dir",Str.ofString "locals"]} LW.row.prog.main.body=true:=by
 rw [SY,MW,Cr];simp only [ux,RH,RG,RF,RE,RD,RC,RB,RA,Ry,OS,OR,OQ,OP];rfl
theorem HI{p b r}(h:PySem.W.Fast.tw17119622794617984870 p b (λ ζ n=>PySem.W.Fast.tw17868728402115742887 n)=r):namesMeet p b (λ ζ n=>attrL n)=r:=by
 rw [PySem.W.Fast.te17119622794617984870,PySem.W.Fast.te17868728402115742887];exact h
theorem l6:namesMeet LW.row.prog LW.row.prog.main.body (λ ζ n=>attrL n)=true:=HI ⋯
theorem l7:LW.footing.all footLine=true:=⋯
theorem l8:noClassBlock LW.prog LW.footing=true:=by rw [PySem.W.Fast.te8179353310426384613];kernel_rfl
theorem l9:noRoadLSs {strict:=true,foot:=some LW.bound',writes:=LW.writes,may:=LW.may} LW.footing=true:=by rw [PySem.W.Fast.te8326940854005059898];kernel_rfl
theorem oW:defStands LW.about LW.above=true:=⋯
theorem FP:LW.namesIt=true:=by rw [PySem.W.Fast.te16286561074155671207];kernel_rfl
theorem xi:LW.row.solid=true:=rfl
theorem pD{p b f r}(h:PySem.W.Fast.tw17119622794617984870 p b f=r):namesMeet p b f=r:=PySem.W.Fast.te17119622794617984870▸h
theorem SN:LW.row.prog.boundNames.contains LW.row.name=true:=⋯
theorem SM:(!startupNames.contains LW.row.name)=true:=rfl
theorem SK:decide (LW.foot<=(behindTheImports LW.prog).length)=true:=rfl
theorem SJ:(LW.bound'.all λ n=> !builtinNamed n || LW.about== [n] || !LW.reads n)=true:=by
 rw [PySem.W.Fast.te797321630700447069,PySem.W.Fast.named_eq,PySem.W.Fast.te6984425678791042302,PySem.W.Fast.sDec_eq];kernel_rfl
theorem SI:(namesMeet LW.prog LW.footing λ sc n=>
 (!([Str.ofString "type",Str.ofString "isinstance",Str.ofString "issubclass",Str.ofString "getattr",Str.ofString "hasattr"]:List Str).contains n || List.lookup n sc.names==some NameKind.globalImplicit) &&
   (LW.may !=some n || sc.kind==ScopeKind.module || List.lookup n sc.names==some NameKind.globalImplicit))=true:=by
 refine pD ?_;rw [PySem.W.Fast.sDec_eq];kernel_rfl
theorem SH:LW.own.contains LW.name=true:=rfl
theorem SG:(LW.own.eraseDups.length==LW.own.length)=true:=by rw [PySem.W.Fast.sDec_eq];kernel_rfl
theorem SF:(LW.own.all λ n=> !builtinNamed n)=true:=by rw [PySem.W.Fast.named_eq];kernel_rfl
theorem SE:(namesMeet LW.prog LW.above λ x n=> !LW.own.contains n)=true:=by
 refine pD ?_;rw [PySem.W.Fast.te10792542408131684335,PySem.W.Fast.sDec_eq];kernel_rfl
theorem SD:(namesMeet LW.prog LW.footing λ sc n=>sc.kind==ScopeKind.module || List.lookup n sc.names !=some NameKind.globalExplicit)=true:=by
 refine pD ?_;rw [PySem.W.Fast.sDec_eq];kernel_rfl
theorem Ri:LW.wellSaid=true:=by
 unfold OpenLaw.wellSaid OpenRow.wellSaid OpenRow.partSaid looksOpen;simp only [Bool.and_eq_true]
 repeat' (with_reducible apply And.intro)
 all_goals first | with_reducible exact l1 | with_reducible exact l2 | with_reducible exact l3 | with_reducible exact l4 | with_reducible exact l5 | with_reducible exact l6 | with_reducible exact l7 | with_reducible exact l8 | with_reducible exact l9 | with_reducible exact oW | with_reducible exact FP | with_reducible exact xi | with_reducible exact SN | with_reducible exact SM | with_reducible exact SK | with_reducible exact SJ | with_reducible exact SI | with_reducible exact SH | with_reducible exact SG | with_reducible exact SF | with_reducible exact SE | with_reducible exact SD | kernel_rfl
end
noncomputable section
noncomputable def Rk:Stmt->DefRec
 | .FunctionDef n a b _ _ _ sc _ _ pos=>⟨n,a,b,sc,pos⟩
 | _=>⟨Str.empty,⟨[],[],none,[],[],none,[]⟩,[],{kind:=.function,names:= [],isGenerator:=false,isCoroutine:=false,more:= []},⟨0,0,0,0⟩⟩
noncomputable abbrev dL:DefRec:=Rk (st 134)
abbrev Gv:(Str->Option Value)->Heap->Prop:=λ ζ ζ=>True
abbrev YP(w:World)(h:Heap):Prop:=∀b o,(absHeap (tf w.params) 986 lf).get? b=some o->h.get? b=some o
theorem S8(call:WalkO qv loose Gv YP LW.row.toRowW dL [] (λ f vs=>PySem.call f vs)):LW.Holds:=by
 refine holds_law Ri λ k1=> ?_;refine holds_open (q:=qv) (loose:=loose) (Xt:=XT) (XP:=Gv) (Yf:=Yf) (Ya:=Ya) (YP:=YP) (d:=dL) (kwd:= []) (N:=12000) left ?_ ?_ ?_ ?_ ?_ ?_ ?_ ?_ ?_ k1 ?_ ?_ ?_ call
 ·intro w s h b o hb;have h':s.heap=absHeap (tf w.params) 986 lf:=h;rw [h'];exact hb
 ·intro w h h' hy k b o hb;exact k b o (hy b o hb)
 ·intros;trivial
 ·intros;trivial
 ·kernel_rfl
 ·kernel_rfl
 ·kernel_rfl
 ·intro s _;exact recFacts_nil rfl
 ·kernel_rfl
 ·kernel_rfl
 ·exact ⟨rfl,rfl,rfl,rfl,rfl,⋯⟩
 ·exact ⟨[.list []],by decide+kernel,by decide+kernel⟩
end
end PQ
end
section
open PySem PySem.W PyProof.Rows PySem.Calls PySem.SeqAt PySem.StrLaws
namespace PM
theorem h6{β:Type}:∀{l:List (Addr×β)} {k:Addr} {v:β},List.lookup k l=some v->(k,v)∈l
 | [],_,_,h=>by cases h
 | (a,b)::r,k,v,h=>by
  rw [List.lookup_cons] at h;cases q:k==a with
  | true=>rw [q] at h;injection h with h;subst h;rw [beq_iff_eq.mp q];exact .head _
  | false=>rw [q] at h;exact .tail _ (h6 h)
end PM
namespace PQ
open PM (h6)
noncomputable section
noncomputable def S4:List Nat:= [3,0,1,2,64,63,31,30,322,321,606,605,73,72,80,79,87,86,94,93,101,100,115,114,122,121,129,128,136,135,143,142,150,149,157,156,164,163,171,170,178,177,185,184,192,191,199,198,206,205,213,212,220,219,227,226,234,233,241,240,255,254,263,256,262,270,269,277,276,284,283,291,290,298,297,305,304,312,311,319,318,333,332,340,339,347,346,354,353,361,360,368,367,375,374,382,381,389,388,396,395,403,402,410,409,417,416,424,423,431,430,438,437,445,444,452,451,459,458,466,465,473,472,481,474,480,488,487,495,494,502,501,509,508,516,515,523,522,528,527,535,534,542,541,547,546,554,553,561,560,568,567,575,574,582,581,589,588,603,602,617,616,624,623,631,630,638,637,645,644,650,649,657,656,664,663,669,668,676,675,683,682,688,687,693,692,700,699,707,706,714,713,721,720,728,727,735,734,742,741,749,748,756,755,763,762,770,769,777,776,782,781,789,788,796,795,803,802,808,807,813,812,820,819,827,826,834,833,841,840,848,847,855,854,862,861,869,868,876,875,883,882,890,889,897,896,902,901,907,906,914,913,921,920,926,925,931,930,938,937,945,944,952,951,959,958,966,965,973,972,978,977,985,984,28,27,61,54,60,108,107]
def kf_o(p:Params)(a:Nat):Obj:=((tf p).get a).getD default
@[irreducible] def Kf (p:Params):Frag:=S4.map λ a=>(a,kf_o p a)
theorem kf_in(p):∀a∈S4,((tf p).get a).bind alive=some (kf_o p a):=List.map_inj_left.mp ⋯
theorem kf_l:∀a∈S4,a<986:=by decide +kernel
theorem kf_m{w:World}{a o}(m:(a,o)∈Kf w.params):∃b∈S4,(b,kf_o w.params b)=(a,o):=List.mem_map.mp (by rw [Kf] at m;exact m)
theorem Gz{w:World}{h:Heap}(y:YP w h):(Kf w.params).In h:=λ a o e=>by
 obtain ⟨b,hb,q⟩:=kf_m (h6 e);cases q;obtain ⟨o',g,s⟩:=Option.bind_eq_some_iff.mp (kf_in w.params a hb);exact y a _ ((abs_get (kf_l a hb) g).trans s)
def Good(w:World):Prop:=∀(s₀ s₁:Shared) (mg mb:Str->Option Value),Ground qv loose LW.row.toRowW.records Gv w s₀ mg mb s₁.heap->YP w s₁.heap->∀(a:Addr) (o:Obj) (pm cd doc dV kV:Value),s₁.heap.get? a=some o->
 o.data= .func {docDef dL.name dL.params dL.body dL.scope pm cd doc with defaults:=dV,kwdefaults:=kV}->s₁.heap.CodeRec cd dL.name->Dflts mg s₁.heap dL.params [] dV kV->mg dL.name=some (.ref a)->s₁.gens= #[]->
 ∀(args:List WData) (vals:List Value) (as:List Addr),LW.row.toRowW.claim.pre args=true->WData.layableAll args=true->ReadsAllW LW.row.toRowW.records (classAt s₀.heap) s₁.heap vals args as->WellAll w.params s₁.heap vals args->(∀a∈as,(a==sysModules)=false)->
  wpAny (model LW.row.toRowW.prog w) callerA (PySem.call (.ref a) vals) (λ v s'=>GoodWG LW.row.toRowW.claim (classAt s₀.heap) (ExcName.means s₀.heap) args s₁ (.ok (.ret v)) s')
   (λ e s'=>GoodWG LW.row.toRowW.claim (classAt s₀.heap) (ExcName.means s₀.heap) args s₁ (.error e) s') s₁
theorem SA:Nonempty World:=⟨⟨λ ζ ζ=>0,{strHash:=λ ζ=>0,shareClass:=λ ζ=>0,mergeTok:=id,idOf:=λ ζ=>0,idOfShared:=λ ζ ζ=>0,followText:=λ ζ=>false,idOfImm:=λ ζ=>0}⟩⟩
end
end PQ
namespace PM
@[irreducible] noncomputable def W0:World:= @Classical.epsilon World PQ.SA λ w=>¬PQ.Good w
noncomputable def aL:Frag:=PQ.Kf W0.params
noncomputable abbrev PR:Program:=PQ.LW.prog
theorem D8(h:PQ.Good W0)(w:World):PQ.Good w:=Classical.byContradiction λ n=>by
 have z:=Classical.epsilon_spec (p:=λ w=>¬PQ.Good w) ⟨w,n⟩;unfold W0 at h;exact z h
theorem GG(h:PQ.Good W0):WalkO PQ.qv PQ.loose PQ.Gv PQ.YP PQ.LW.row.toRowW PQ.dL [] (λ f vs=>PySem.call f vs):=λ w=>D8 h w
end PM
end
section
open PySem PySem.W PyProof.Rows PySem.Calls PySem.SeqAt PySem.StrLaws
namespace PM
section
def ag:=@Nat.le_trans
def af:=@wpAny_bind
def ar:=@Option.some.inj
def az:=@wpAny_mono
def b9:=@Heap.get?_push_of_some
def cQ:=@List.getElem?_eq_getElem
def aD:=@wpAny_pure
def di:=@List.getElem?_eq_some_iff
def a0:=@List.mem_cons
def cu:=@List.mem_singleton
def cK:=@Bool.false_ne_true
def eN:=@Nat.le_of_ble_eq_true
def dW:=@Heap.get?_push_size
def ee:=@Nat.add_le_add_left
def cJ:=@List.length_map
def dx:=@List.length_cons
def b1:=@Nat.le_of_eq
def dg:=@Nat.le_add_left
def ed:=@Nat.le_add_right
def bV:=@Nat.le_refl
def ez:=@Nat.succ_le_succ
def e7:=@List.size_toArray
def iD:=@Nat.le_of_succ_le_succ
def fZ:=@Nat.lt_of_le_of_lt
def ff:=@beq_self_eq_true
def e6:=@List.mem_append
def hH:=@List.length_append
def kU:=@Nat.succ_add_eq_add_succ
def eM:=@wpAny_standAt
def gy:=@List.all_eq_true
def gx:=@of_decide_eq_true
def gV:=@Nat.not_lt_zero
def nB:=@Option.isSome_iff_exists
def jJ:=@List.append_assoc
def nA:=@Heap.get?_update_other
def fY:=@Heap.lt_size
def ny:=@List.getElem?_set_ne
def nu:=@Heap.get?_none_of_le
def j8:=@Nat.lt_succ_self
def kS:=@Nat.le_of_succ_le
def kR:=@List.not_mem_nil
def kQ:=@List.lookup_cons
def jI:=@decide_eq_true
def o5:=@Nat.add_le_add_right
def nq:=@Bool.and_eq_true_iff
def qu:=@Nat.lt_of_succ_lt_succ
def qs:=@List.getElem?_set_self
def i1:=@wpAny_holding
def iC:=@Nat.le_of_lt
def qr:=@Heap.get?_update_self
def nj:=@Nat.le_succ_of_le
def o4:=@Nat.lt_of_lt_of_le
def i0:=@List.mem_map
def kO:=@List.nodup_nil
def o1:=@wpAny_truthy_bool
def oZ:=@wpAny_newObj_type
def oY:=@wpAny_loadPart_at
def u_:=@wpAny_assignInOrder_more
def jH:=@Nat.zero_add
def jG:=@Nat.ne_of_lt
def sJ:=@List.mem_append_right
def kcj:=@Nat.add_le_add
def u9:=@Nat.add_sub_cancel_left
def nh:=@List.nodup_cons
def ng:=@List.append_nil
def sI:=@List.mem_append_left
def u7:=@Nat.le_of_add_right_le
def sH:=@Option.isNone_iff_eq_none
def my:=@Nat.lt_irrefl
def nf:=@List.mem_range
def sG:=@Nat.add_right_comm
def qq:=@Bool.and_eq_true
def u6:=@List.mem_iff_getElem
def nc:=@Bool.and_true
def sF:=@Nat.lt_succ_of_le
def sE:=@List.getElem?_map
def qp:=@decide_eq_false
def kN:=@Nat.le_succ
def qo:=@List.map_append
def gU:=@eq_of_beq
def xv:=@Nat.le_of_add_left_le
def u5:=@List.zip_cons_cons
def By:=@List.getElem?_append_left
def Bx:=@wpAny_assignInOrder_none
def sD:=@List.length_set
def sC:=@List.forIn_cons
def m_:=@Nat.zero_le
def u4:=@List.length_drop
def F1:=@List.eq_nil_of_length_eq_zero
def u3:=@List.any_eq_true
def xu:=@List.mem_filterMap
def xt:=@List.contains_cons
def xr:=@Int.natCast_nonneg
def oX:=@wpAny_of_eq
def u0:=@Nat.min_eq_left
def Bw:=@List.length_singleton
def Bv:=@List.length_filter_le
def Bu:=@List.contains_iff_mem
def qn:=@Int.ofNat_le
def xq:=@Nat.lt_of_succ_lt
def sy:=@List.all_cons
def FZ:=@Array.getElem?_eq_some_iff
def Bt:=@Nat.not_succ_le_zero
def Bs:=@List.mem_of_getElem?
def xp:=@Nat.le_of_not_lt
def qm:=@List.isEmpty_iff
def Br:=@wpAny_isSubtype_exc
def ql:=@wpAny_field
def Bq:=@Nat.mul_le_mul_left
def Bo:=@List.map_congr_left
def sx:=@Nat.succ.inj
def sv:=@Int.ofNat_lt
def Bn:=@wpAny_assign_Name
def Bm:=@wpAny_Return_some
def Bl:=@Nat.lt_succ_of_lt
def Bk:=@Nat.le_of_lt_succ
def xo:=@Heap.size_push
def uZ:=@Nat.succ_add
def uY:=@Nat.min_self
def uX:=@List.map_map
def FY:=@List.getElem?_eq_none
def Bj:=@Nat.succ_ne_self
def Bi:=@Nat.not_lt_of_le
def Bh:=@List.mem_reverse
def Bg:=@List.map_snd_zip
def Bf:=@List.length_take
def FX:=@Nat.not_succ_le_self
def su:=@wpAny_call
def Bc:=@wpAny_execs_nil
def Bb:=@Nat.le_antisymm
def Ba:=@List.of_mem_zip
def A_:=@List.length_zip
def L0:=@List.getElem?_concat_length
def A9:=@List.count_cons
def FW:=@List.append_toArray
def LZ:=@List.getD_eq_getElem?_getD
def xn:=@Nat.lt_trans
def FV:=@List.getElem?_drop
def A8:=@wpAny_loadPart
def A7:=@wpAny_Compare1
def LY:=@Nat.le_of_add_le_add_left
def LX:=@List.drop_eq_getElem_cons
def A6:=@List.drop_drop
def FU:=@wpAny_pyIter_enum
def FT:=@wpAny_dictEntries
def uW:=@beq_iff_eq
def FR:=@Nat.zero_lt_of_lt
def FQ:=@List.length_range
def LV:=@List.filterMap_cons_some
def LU:=@wpAny_Call_method_lateS
def A5:=@List.map_cons
abbrev prog:Program:=PR
noncomputable abbrev w:World:=W0
noncomputable abbrev Kf:Frag:=aL
noncomputable abbrev M0:Model:=model PR W0
noncomputable abbrev Pw:Params:=W0.params
variable{C:Prop}
def aQ{a:Type}{b:a}(h:none=some b):C:=nomatch h
def c4(h:false=true):C:=nomatch h
def Sy(h:true=false):C:=nomatch h
inductive V where
 | none
 | bool (b:Bool)
 | int (i:Int)
 | str (s:Str)
 | tup (vs:List V)
 | lst (vs:List V)
 | bH (ks:List Str) (vs:List V)
 | j7
 | j6 (ks:List Str) (v:V)
 | ref (i:Nat)
 | fn (a:Addr)
 | exc (why:Str) (row col:Int)
 deriving Inhabited
noncomputable def V.ctorIdx(v:V):Nat:=v.casesOn 0 (λ ζ=>1) (λ ζ=>2) (λ ζ=>3) (λ ζ=>4) (λ ζ=>5) (λ ζ ζ=>6) 7 (λ ζ ζ=>8) (λ ζ=>9) (λ ζ=>10) (λ ζ ζ ζ=>11)
inductive O where
 | inst (c:Addr) (ns:List Str) (vs:List V)
 | dict (ks:List Str) (vs:List V)
 | list (vs:List V)
 | known (o:Option (List Str×V))
 | zip (b:Bool) (toks:List V) (n:Nat) (rest more:List V)
 deriving Inhabited
noncomputable def O.ctorIdx(v:O):Nat:=v.casesOn (λ ζ ζ ζ=>0) (λ ζ ζ=>1) (λ ζ=>2) (λ ζ=>3) (λ ζ ζ ζ ζ ζ=>4)
noncomputable def cP(P:Params):List Str->List Value->List DictEntry->Prop
 | [],[],[]=>True
 | k::b,v::c,e::a=>(∃t,e.key= .str k t)/\e.hash=PyData.keyHash P k/\e.val=v/\cP P b c a
 | _,_,_=>False
def SeqAt(h:Heap)(a:Addr)(T:String)(mvs:List Value):Prop:=∃n,h.get? a=some {.type T,none,.seq mvs.toArray n,#[]}
def DictAt(P:Params)(h:Heap)(a:Addr)(ks:List Str)(mvs:List Value):Prop:=
 ∃b n,h.get? a=some {.type "dict",none,.dict b.toArray n,#[]}/\cP P ks mvs b/\ks.Nodup/\(a==sysModules)=false
structure iO where
 bad:Addr
noncomputable def StrsAre:List Str->List Value->Prop
 | [],[]=>True
 | x::b,v::a=>(∃t,v= .str x t)/\StrsAre b a
 | _,_=>False
noncomputable def cE(P:Params)(h:Heap)(a:Addr):Option (List Str×Addr×Value)->Prop
 | none=>∃n,h.get? a=some {.type "dict",none,.dict #[] n,#[]}/\(a==sysModules)=false
 | some (b,k,m)=>∃n,h.get? a=some {.type "dict",none,.dict #[{reduceHash (Builtin.Tuple.tupleHashOf (b.map (PyData.keyHash P))),.ref k,m}] n,#[]}/\(a==sysModules)=false
theorem cE.there{P}{h}{a}:∀{o},cE P h a o->∃b,h.get? a=some b
 | none,⟨_,e,_⟩=>⟨_,e⟩
 | some _,⟨_,e,_⟩=>⟨_,e⟩
inductive gE(B:Addr->Prop)(h:Heap):Value->Prop
 | no:gE B h .none
 | at (T:Addr) (d:Option Addr) (ts:Array Value) (sl:Array (Option Value)) (b:B T) (e:h.get? T=some {.type "traceback",d,.fields ts,sl}) (z:3<ts.size):gE B h (.ref T)
def s9(H:List Addr):Heap->Value->Prop:=gE λ T=>T∉H
inductive n8(K:iO)(P:Params)(H:List Addr)(h:Heap)(why:Str)(row col:Int):Value->Prop
 | mk (a d:Addr) (ws:Array Value) (sl:Array (Option Value)) (t u r v) (tb:Value) (n:a∉H) (e:h.get? a=some {.ref K.bad,some d,.fields ws,sl}) (D:DictAt P h d ["why","at","row","column"] [.str why t,.int (-1) u,.int row r,.int col v]) (nd:d∉H) (et:ws[1]? =some tb) (b:s9 H h tb):n8 K P H h why row col (.ref a)
mutual
noncomputable def Rep(K:iO)(P:Params)(ν H:List Addr)(h:Heap):V->Value->Prop
 | .none,d=>d= .none
 | .bool b,d=>d= .bool b
 | .int i,d=>∃t,d= .int i t
 | .str s,d=>∃t,d= .str s t
 | .tup e,d=>∃a c,d= .ref a/\a∉H/\SeqAt h a "tuple" c/\aj K P ν H h e c
 | .lst e,d=>∃a c,d= .ref a/\a∉H/\SeqAt h a "list" c/\aj K P ν H h e c
 | .bH g e,d=>∃a c,d= .ref a/\a∉H/\DictAt P h a g c/\aj K P ν H h e c
 | .j7,d=>∃a,d= .ref a/\a∉H/\cE P h a none
 | .j6 g v,d=>∃a k m f,d= .ref a/\a∉H/\k∉H/\cE P h a (some (g,k,m))/\SeqAt h k "tuple" f/\StrsAre g f/\Rep K P ν H h v m
 | .ref i,d=>∃a,d= .ref a/\ν[i]? =some a
 | .fn a,d=>d= .ref a
 | .exc n l j,d=>n8 K P H h n l j d
noncomputable def aj(K:iO)(P:Params)(ν H:List Addr)(h:Heap):List V->List Value->Prop
 | [],c=>c= []
 | v::e,c=>∃m o,c=m::o/\Rep K P ν H h v m/\aj K P ν H h e o
end
structure Cx where
 ν:List Addr
 μ:List Addr
 Fs:List Addr
 H:List Addr
noncomputable def Cx.S(c:Cx):List Addr:=c.ν++c.μ
def fS(c:Cx):Heap->Value->Prop:=gE λ T=>T∉c.H/\T∉c.S/\T∉c.Fs
def gE.to{B a}{h}{v}(x:gE B h v)(k:∀T,B T->a T):gE a h v:=x.casesOn .no λ T d f c b e z=> .at T d f c (k T b) e z
theorem fS.h{c}{h}{v}(x:fS c h v):s9 c.H h v:=gE.to x λ ζ b=>b.1
inductive kj(K:iO)(B:Value->Prop)(o:Obj):Obj->Prop
 | same:kj K B o o
 | fld (ws ws':Array Value) (sl:Array (Option Value)) (h:o.data= .fields ws) (z:ws'.size=ws.size) (hc:o.cls= .type "traceback"∨(o.cls= .ref K.bad/\∃v,ws'[1]? =some v/\B v)):kj K B o {o.cls,o.dict,.fields ws',sl}
section
variable{K:iO}{B B':Value->Prop}{o a b d:Obj}
def kj.to(x:kj K B a b)(st:∀v,B v->B' v):kj K B' a b:=x.casesOn .same λ g c f h z e=> .fld g c f h z (e.imp id λ q=>{q.1,q.2.imp λ v q=>{q.1,st v q.2}})
def kj.trans(x:kj K B a b)(y:kj K B' b d)(st:∀v,B v->B' v):kj K B' a d:=by
 cases y with
 | same=>exact x.to st
 | fld k c f h z e=>cases x with
  | same=>exact .fld k c f h z e
  | fld l m j g n i=>cases h;exact .fld l c f g (z.trans n) e
def kj.b3(x:kj K B a b)(e:∀c,a.data≠.fields c):b=a:=x.casesOn rfl λ c f i h z g=>absurd h (e c)
def gE.of{B B':Addr->Prop}{X}{h f}{v}(x:gE B h v)(k:∀T o,h.get? T=some o->B T->B' T/\∃o',f.get? T=some o'/\kj K X o o'):gE B' f v:=by
 cases x with
 | no=>exact .no
 | «at» T d j g b e z=>
  have q:=k T _ e b;refine q.2.elim λ o' p=> ?_;have c:=p.1;cases p.2 with
  | same=>exact .at T d j g q.1 c z
  | fld r l i h m n=>cases h;exact .at T _ _ _ q.1 c (m▸z)
end
structure ik(K:iO)(n:Prop)(c:Cx)(h:Heap)(o o':Obj):Prop where
 e:n->o'=o
 s:kj K (fS c h) o o'
section
variable{K:iO}{n n':Prop}{c c':Cx}{h h':Heap}{o o' a b d:Obj}
def ik.refl(o):ik K n c h o o:={λ ζ=>rfl,.same}
def ik.to(x:ik K n c h a b)(st:∀v,fS c h v->fS c' h' v):ik K n c' h' a b:={x.e,x.s.to st}
def ik.trans(x:ik K n c h a b)(y:ik K n' c' h' b d)(e:n->n')(st:∀v,fS c h v->fS c' h' v):ik K n c' h' a d:={λ m=>(y.e (e m)).trans (x.e m),x.s.trans y.s st}
def ik.exact(x:ik K n c h o o'){T}(e:o.cls= .type T)(f:T≠"traceback"):o'=o:=x.s.casesOn rfl λ j g i h z q=>q.elim (λ q=>absurd (Value.type.inj (e.symm.trans q)) f) λ q=>nomatch e.symm.trans q.1
end
structure Cx.ok(c:Cx):Prop where
 s:∀a∈c.S,a∈c.H
 f:∀a∈c.Fs,a∈c.H
variable{c:Cx}
def Cx.ok.no(k:c.ok){a}(n:a∉c.H):a∉c.S:=λ m=>n (k.s a m)
def Cx.ok.cF(k:c.ok){a}(n:a∉c.H):a∉c.Fs:=λ m=>n (k.f a m)
structure aN(K:iO)(c:Cx)(h:Heap)(c':Cx)(h':Heap):Prop where
 keep:∀(b:Addr) (o:Obj),h.get? b=some o->b∉c.S->b∉c.Fs->∃o',h'.get? b=some o'/\ik K (b∈c.H) c' h' o o'
 o7:∀(b:Addr) (o:Obj),h.get? b=some o->b∉c.S->b∈c.Fs->∃sl,h'.get? b=some {o with slots:=sl}
 there:∀(b:Addr) (o:Obj),h.get? b=some o->∃o',h'.get? b=some o'
 iG:∀a∈c'.S,a∈c.S∨h.get? a=none
 jN:∀a∈c'.Fs,a∈c.Fs∨h.get? a=none
 avoid:∀a∈c'.H,a∈c.H∨h.get? a=none
 bz:∀a∈c.H,a∈c'.H
 grow:∀(i:Nat) (a:Addr),c.ν[i]? =some a->c'.ν[i]? =some a
 nG:∀(i:Nat) (a:Addr),c.μ[i]? =some a->c'.μ[i]? =some a
theorem aN.refl{K}(c)(h):aN K c h c h:=
 {λ b o e ζ ζ=>{o,e,.refl o},λ b o e ζ ζ=>⟨o.slots,e⟩,λ b o e=>⟨o,e⟩,λ ζ x=> .inl x,λ ζ x=> .inl x,λ ζ x=> .inl x,λ ζ x=>x,λ ζ ζ e=>e,λ ζ ζ e=>e}
def aN.none_of{K}{c c'}{h b}(x:aN K c h c' b){a}(z:b.get? a=none):h.get? a=none:=by
 cases q:h.get? a with
 | none=>rfl
 | some o=>refine (x.there a o q).elim λ e d=> ?_;rw [z] at d;contradiction
def aN.Fm{K}{c c'}{h b}(x:aN K c h c' b){a}{o}(e:h.get? a=some o)(n:a∉c.S):a∉c'.S:=λ m=>by
 rcases x.iG a m with z | z
 ·exact n z
 ·lia
def aN.OE{K}{c c'}{h b}(x:aN K c h c' b){a}{o}(e:h.get? a=some o)(n:a∉c.Fs):a∉c'.Fs:=λ m=>by
 rcases x.jN a m with z | z
 ·exact n z
 ·lia
def aN.OD{K}{c c'}{h b}(x:aN K c h c' b){a}{o}(e:h.get? a=some o)(n:a∉c.H):a∉c'.H:=λ m=>by
 rcases x.avoid a m with z | z
 ·exact n z
 ·lia
def aN.tb{K}{c c'}{h a}(x:aN K c h c' a){v}(z:fS c h v):fS c' a v:=
 gE.of z λ ζ o e b=>{{x.OD e b.1,x.Fm e b.2.1,x.OE e b.2.2},(x.keep _ o e b.2.1 b.2.2).imp λ ζ z=>⟨z.1,z.2.s⟩}
theorem s9.v{c}{h}{v}(a:c.ok)(x:s9 c.H h v):fS c h v:=gE.to x λ ζ n=>{n,a.no n,a.cF n}
def aN.trans{K}{d g j}{h k l}(x:aN K d h g k)(y:aN K g k j l)(D:∀a∈d.Fs,a∈g.Fs):aN K d h j l:=by
 have B:∀b o,h.get? b=some o->b∉d.S->b∉g.S:=λ b o e n m=>by
  rcases x.iG _ m with z | z
  ·exact n z
  ·lia
 refine {λ b o e n f=> ?_,λ b o e n f=> ?_,λ b o e=> ?_,λ a m=> ?_,λ a m=> ?_,λ a m=> ?_,λ a m=>y.bz _ (x.bz _ m),λ i a e=>y.grow _ _ (x.grow _ _ e),λ i a e=>y.nG _ _ (x.nG _ _ e)}
 ·exact (x.keep b o e n f).elim λ t p=>(y.keep b t p.1 (B b o e n) (λ b o e n m=>by
  rcases x.jN _ m with z | z
  ·exact n z
  ·lia b o e f)).elim λ u q=>{u,q.1,p.2.trans q.2 (x.bz _) λ v z=>y.tb z}
 ·exact (x.o7 b o e n f).elim λ E r=>(y.o7 b _ r (B b o e n) (D _ f)).elim λ A s=>⟨A,s⟩
 ·exact (x.there b o e).elim λ t r=>y.there b t r
 ·rcases y.iG a m with z | z
  ·exact x.iG a z
  ·exact .inr (x.none_of z)
 ·rcases y.jN a m with z | z
  ·exact x.jN a z
  ·exact .inr (x.none_of z)
 ·rcases y.avoid a m with z | z
  ·exact x.avoid a z
  ·exact .inr (x.none_of z)
def aN.of_keeps{K}{c}{h a}(k:∀b o,h.get? b=some o->a.get? b=some o):aN K c h c a:=
 {λ b o e ζ ζ=>{o,k b o e,.refl o},λ b o e ζ ζ=>{o.slots,k b o e},λ b o e=>{o,k b o e},λ ζ x=> .inl x,λ ζ x=> .inl x,λ ζ x=> .inl x,λ ζ x=>x,λ ζ ζ e=>e,λ ζ ζ e=>e}
def aN.b3{K}{c c'}{h d}(x:aN K c h c' d){b}{o}(e:h.get? b=some o)(n:b∉c.S)(f:b∉c.Fs)(g:∀i,o.data≠.fields i):d.get? b=some o:=by
 refine (x.keep b o e n f).elim λ j a=> ?_;rw [a.1,a.2.s.b3 g]
def aN.exact{K}{c c'}{h d}(x:aN K c h c' d){b}{o}{T}(e:h.get? b=some o)(n:b∉c.S)(f:b∉c.Fs)(i:o.cls= .type T)(g:T≠"traceback"):d.get? b=some o:=by
 refine (x.keep b o e n f).elim λ j a=> ?_;rw [a.1,a.2.exact i g]
def aN.vN{K}{c c'}{h a}(x:aN K c h c' a){b}{o}(e:h.get? b=some o)(n:b∉c.H):b∉c'.H:=λ m=>by
 rcases x.avoid _ m with z | z
 ·exact n z
 ·lia
structure Tr(K:iO)(ν H:List Addr)(h:Heap)(ν' H':List Addr)(h':Heap):Prop where
 g:∀(i:Nat) (a:Addr),ν[i]? =some a->ν'[i]? =some a
 k:∀b o,h.get? b=some o->b∉H->b∉H'/\∃o',h'.get? b=some o'/\kj K (s9 H' h') o o'
section
variable{K:iO}{P:Params}{ν H ν' H':List Addr}{h h':Heap}{a:Addr}
def Tr.exact(x:Tr K ν H h ν' H' h'){o}(e:h.get? a=some o)(n:a∉H)(b:∀d,o.data≠.fields d):a∉H'/\h'.get? a=some o:={(x.k a o e n).1,(x.k a o e n).2.elim λ ζ z=>z.2.b3 b▸z.1}
def Tr.tb(x:Tr K ν H h ν' H' h'){v}(z:s9 H h v):s9 H' h' v:=gE.of z x.k
def Tr.seq(x:Tr K ν H h ν' H' h'){T}{mvs}(n:a∉H)(s:SeqAt h a T mvs):a∉H'/\SeqAt h' a T mvs:=
 s.elim λ k b=>let z:=x.exact b n λ ζ q=>Data.noConfusion q;⟨z.1,k,z.2⟩
def Tr.dict(x:Tr K ν H h ν' H' h'){ks}{mvs}(n:a∉H)(s:DictAt P h a ks mvs):a∉H'/\DictAt P h' a ks mvs:=
 s.elim λ d b=>b.elim λ k b=>let z:=x.exact b.1 n λ ζ q=>Data.noConfusion q;⟨z.1,d,k,z.2,b.2⟩
def Tr.known(x:Tr K ν H h ν' H' h')(n:a∉H){q}(s:cE P h a q):a∉H'/\cE P h' a q:=by
 cases q with
 | none=>refine s.elim λ k d=> ?_;have z:=x.exact d.1 n λ ζ q=>Data.noConfusion q;exact ⟨z.1,k,z.2,d.2⟩
 | some q=>refine s.elim λ k b=> ?_;have z:=x.exact b.1 n λ ζ q=>Data.noConfusion q;exact ⟨z.1,k,z.2,b.2⟩
def Tr.exc(x:Tr K ν H h ν' H' h'){i}{g f}{m}(r:n8 K P H h i g f m):n8 K P H' h' i g f m:=by
 cases r with
 | mk a d I E t u o v F n e D B s b=>
 have q:=x.k a _ e n;have z:=x.dict B D;refine q.2.elim λ L p=> ?_;have l:=p.1;cases p.2 with
 | same=>exact .mk a d I E t u o v F q.1 l z.2 z.1 s (x.tb b)
 | fld M k j J N A=>exact A.elim (λ h=>nomatch h) λ y=>y.2.elim λ G y=> .mk a d k j t u o v G q.1 l z.2 z.1 y.1 y.2
def Tr.both(x:Tr K ν H h ν' H' h'):(∀v m,Rep K P ν H h v m->Rep K P ν' H' h' v m)/\(∀vs ms,aj K P ν H h vs ms->aj K P ν' H' h' vs ms):=by
 have g:∀{T} {vs} {m:Value},(∀ms,aj K P ν H h vs ms->aj K P ν' H' h' vs ms)->(∃a b,m= .ref a/\a∉H/\SeqAt h a T b/\aj K P ν H h vs b)->∃a b,m= .ref a/\a∉H'/\SeqAt h' a T b/\aj K P ν' H' h' vs b:=λ d z=>z.elim λ a z=>z.elim λ b z=>{a,b,z.1,(x.seq z.2.1 z.2.2.1).1,(x.seq z.2.1 z.2.2.1).2,d _ z.2.2.2};have i:∀v vs,(∀m,Rep K P ν H h v m->Rep K P ν' H' h' v m)->(∀ms,aj K P ν H h vs ms->aj K P ν' H' h' vs ms)->∀ms,aj K P ν H h (v::vs) ms->aj K P ν' H' h' (v::vs) ms:=λ v vs j n ms z=>z.elim λ m z=>z.elim λ l z=>{m,l,z.1,j _ z.2.1,n _ z.2.2}
 have e:=λ v=>V.rec (motive_1:=λ v=>∀m,Rep K P ν H h v m->Rep K P ν' H' h' v m)
  (λ ζ r=>r) (λ ζ ζ r=>r) (λ ζ ζ r=>r) (λ ζ ζ r=>r) (λ ζ d ζ r=>g d r) (λ ζ d ζ r=>g d r) (λ ζ ζ d ζ z=>z.elim λ a z=>z.elim λ b z=>{a,b,z.1,(x.dict z.2.1 z.2.2.1).1,(x.dict z.2.1 z.2.2.1).2,d _ z.2.2.2})
  (λ ζ z=>z.imp λ a z=>{z.1,x.known z.2.1 z.2.2}) (λ ζ ζ d ζ z=>z.elim λ a z=>z.elim λ k z=>z.elim λ m z=>z.elim λ f z=>(λ p q w=>{a,k,m,f,z.1,p.1,q.1,p.2,q.2,w.1,d _ w.2}:_/\_->_/\_->_/\_->_) (x.known z.2.1 z.2.2.2.1) (x.seq z.2.2.1 z.2.2.2.2.1) z.2.2.2.2.2)
  (λ ζ ζ z=>z.imp λ a z=>{z.1,x.g _ _ z.2}) (λ ζ ζ r=>r) (λ ζ ζ ζ ζ r=>x.exc r) (λ ζ r=>r) i v
 exact {e,λ vs=>by
  induction vs with
  | nil=>exact λ ζ r=>r
  | cons v vs d=>exact i v vs (e v) d}
def Tr.rep(x:Tr K ν H h ν' H' h'){v}{m}(r:Rep K P ν H h v m):Rep K P ν' H' h' v m:=x.both.1 v m r
def Tr.bN(x:Tr K ν H h ν' H' h'){v}{m}(r:aj K P ν H h v m):aj K P ν' H' h' v m:=x.both.2 v m r
def aj.length{vs}:∀{mvs},aj K P ν H h vs mvs->mvs.length=vs.length:=by
 induction vs with
 | nil=>intro mvs r;subst r;rfl
 | cons v vs b=>intro mvs ⟨m,f,e,_,d⟩;subst e;exact congrArg _ (b d)
end
def aN.tr{K}{c c'}{h a}(d:c.ok)(x:aN K c h c' a):Tr K c.ν c.H h c'.ν c'.H a:={x.grow,λ b o e n=>{x.vN e n,(x.keep b o e (d.no n) (d.cF n)).imp λ ζ z=>{z.1,z.2.s.to λ ζ=>fS.h}}}
theorem Tr.same{K}{ν H d f}{h j}(g:∀(i:Nat) (a),ν[i]? =some a->d[i]? =some a)(k:∀b o,h.get? b=some o->b∉H->b∉f/\j.get? b=some o):Tr K ν H h d f j:={g,λ b o e n=>{(k b o e n).1,o,(k b o e n).2,.same}}
def Rep.step{K}{P}{c c'}{h a}(d:c.ok)(x:aN K c h c' a)(v)(b)(r:Rep K P c.ν c.H h v b):Rep K P c'.ν c'.H a v b:=(x.tr d).rep r
def aj.step{K}{P}{c c'}{h a}(b:c.ok)(x:aN K c h c' a)(vs)(mvs)(r:aj K P c.ν c.H h vs mvs):aj K P c'.ν c'.H a vs mvs:=(x.tr b).bN r
def Tr.mono{K}{ν H b}{h}(d:∀a∈b,a∈H):Tr K ν H h ν b h:=.same (λ ζ ζ e=>e) λ ζ ζ e n=>{λ m=>n (d _ m),e}
def Rep.mono{K}{P}{ν H b}{h}(e:∀a∈b,a∈H)(v)(d)(r:Rep K P ν H h v d):Rep K P ν b h v d:=(Tr.mono e).rep r
def aj.mono{K}{P}{ν H b}{h}(d:∀a∈b,a∈H)(vs)(mvs)(r:aj K P ν H h vs mvs):aj K P ν b h vs mvs:=(Tr.mono d).bN r
def SeqAt.step{K}{c c'}{h b}(x:aN K c h c' b){a}{T}{mvs}(s:SeqAt h a T mvs)(n:a∉c.S)(f:a∉c.Fs):SeqAt b a T mvs:=s.elim λ k e=>{k,x.b3 e n f λ ζ q=>Data.noConfusion q}
def DictAt.step{P}{K}{c c'}{h d}(x:aN K c h c' d){a}{ks}{mvs}(s:DictAt P h a ks mvs)(n:a∉c.S)(f:a∉c.Fs):DictAt P d a ks mvs:=s.elim λ e q=>q.elim λ k b=>{e,k,x.b3 b.1 n f λ ζ q=>Data.noConfusion q,b.2}
end
section
noncomputable abbrev VP:=Value->Shared->Prop
set_option genCtorIdx true in
inductive x7 where
 | len | ord | tuple | list | min | max | sum | str | int | nC | dict
set_option genCtorIdx true in
inductive Met where
 | split | find | lower | strip | join | pK | eH
inductive Pr where
 | bin (o:Operator) | cmp (o:CmpOp) | sj | neg | not | iE | vf
 | item | mN | gK | mM | mL
 | tup | lst | bH (ks:List Str) | j7 | j6
 | ek (b:x7)
 | y5 (parts:List (Option Str)) | attr (n:Str) | oB (c:Addr)
mutual
inductive X where
 | lit (v:V) | loc (i:Nat) | glob (a:Addr)
 | prim (p:Pr) (xs:List X)
 | cM (c a b:X)
 | ba (isAnd:Bool) (xs:List X)
 | chain (p q:CmpOp) (a b c:X)
 | call (f:Addr) (xs:List X)
 | pF (f:Addr) (n:Str) (x:X) (xs:List X)
 | met (p:Met) (x:X) (xs:List X)
 | tS (i:Nat) (xs:List X)
 | new (c f:Addr) (xs:List X)
 | ro (x:X) | kv (ks:List Str) (xs:List X) | tI | qf (x y:X)
 | uB (x:X)
 | mY (i:Nat) | iR (i:Nat) | mu (i:Nat) (b:Bool) | si (x:X) (i:Nat)
 | comp (e:X) (t:Tg) (it:It) (cs:List X)
 | stuck
inductive Tg where
 | loc (i:Nat) | tup (ts:List Tg)
inductive It where
 | val (x:X) | kr (x:X) | lS (x y:X) | nP (x:X)
end
noncomputable def It.ctorIdx(v:It):Nat:=v.casesOn (λ ζ=>0) (λ ζ=>1) (λ ζ ζ=>2) (λ ζ=>3)
noncomputable def Tg.ctorIdx(v:Tg):Nat:=v.casesOn (λ ζ=>0) (λ ζ=>1)
noncomputable def X.ctorIdx(v:X):Nat:=v.casesOn (λ ζ=>0) (λ ζ=>1) (λ ζ=>2) (λ ζ ζ=>3) (λ ζ ζ ζ=>4) (λ ζ ζ=>5) (λ ζ ζ ζ ζ ζ=>6) (λ ζ ζ=>7) (λ ζ ζ ζ ζ=>8) (λ ζ ζ ζ=>9) (λ ζ ζ=>10) (λ ζ ζ ζ=>11) (λ ζ=>12) (λ ζ ζ=>13) 14 (λ ζ ζ=>15) (λ ζ=>16) (λ ζ=>17) (λ ζ=>18) (λ ζ ζ=>19) (λ ζ ζ=>20) (λ ζ ζ ζ ζ=>21) 22
inductive Y where
 | expr (x:X)
 | asg (t:Tg) (x:X)
 | q0 (x:X) (ns:List Str) (v:X)
 | c8 (x k v:X)
 | vO (p:Operator) (i:Nat) (v:X)
 | rQ (p:Operator) (x:X) (n:Str) (v:X)
 | eL (p:Operator) (x k v:X)
 | ifs (c:X) (a b:List Y)
 | gp (c:X) (b:List Y)
 | e3 (t:Tg) (it:It) (b:List Y)
 | brk
 | ret (x:X)
 | cB (x:X)
 | yd (x:X) (i:Nat) (tag:Str)
 | hX (i:Nat) (xs:List X)
 | lU (i:Nat) (t:Nat) (first:Bool) (x:X)
 | qc (i:Nat)
 | oset (i:Nat) (k v:X)
 | dy (i:Nat) (x:X)
 | pz (i:Nat) (x:X)
 | pC (i:Nat) (x:X)
 | lT (i:Nat)
 | j3 (i:Nat) (x:X)
structure Fn where
 kc:List V
 np:Nat
 ns:Nat
 body:List Y
noncomputable abbrev En:=List (Option V)
noncomputable abbrev St:=List O
noncomputable abbrev VS:=V->St->Prop
inductive R(α:Type) where
 | ok (a:α) (σ:St)
 | ex (e:V) (σ:St)
noncomputable def R.ctorIdx{a:Type}(v:R a):Nat:=v.casesOn (λ ζ ζ=>0) (λ ζ ζ=>1)
noncomputable def ae{a b:Type}(o:Option a)(f:a->Option b):Option b:=match o with
 | some v=>f v
 | none=>none
def ja{a b}{o:Option a}{f}{r:b}(h:ae o f=some r):∃v,o=some v/\f v=some r:=match o,h with
 | some v,h=>⟨v,rfl,h⟩
noncomputable def gd{a:Type}(c:Prop)[Decidable c](x:Option a):Option a:=if c then x else none
def eg{a}{c}[d:Decidable c]{x}{r:a}(h:gd c x=some r):c/\x=some r:=by
 by_cases q:c
 ·exact {q,(if_pos q).symm.trans h}
 ·exact absurd ((if_neg q).symm.trans h) nofun
noncomputable def V.b? :V->Option Bool
 | .bool b=>some b
 | _=>Option.none
noncomputable def V.i? :V->Option Int
 | .int b=>some b
 | _=>Option.none
noncomputable def V.s? :V->Option Str
 | .str b=>some b
 | _=>Option.none
noncomputable def V.l? :V->Option (List V)
 | .lst b=>some b
 | _=>Option.none
noncomputable def V.t? :V->Option (List V)
 | .tup b=>some b
 | _=>Option.none
noncomputable def V.r? :V->Option Nat
 | .ref b=>some b
 | _=>Option.none
noncomputable def V.f? :V->Option Addr
 | .fn b=>some b
 | _=>Option.none
noncomputable def V.d? :V->Option (List Str×List V)
 | .bH a b=>some (a,b)
 | _=>Option.none
noncomputable def V.e? :V->Option (Str×Int×Int)
 | .exc w r c=>some (w,r,c)
 | _=>Option.none
noncomputable def V.n? :V->Option Unit
 | .none=>some ()
 | _=>Option.none
noncomputable def V.QI :V->Option Unit
 | .j7=>some ()
 | _=>Option.none
noncomputable def V.QH :V->Option (List Str×V)
 | .j6 a v=>some (a,v)
 | _=>Option.none
variable{v:V}
def V.RM{b}(h:v.QI =some b):v= .j7:=by cases v<;>first | exact aQ h | rfl
def V.RL{b}(h:v.QH =some b):v= .j6 b.1 b.2:=by cases v<;>first | exact aQ h | exact ar h▸rfl
def V.o_{b}(h:v.b? =some b):v= .bool b:=by cases v<;>first | exact aQ h | exact ar h▸rfl
def V.o6{b}(h:v.i? =some b):v= .int b:=by cases v<;>first | exact aQ h | exact ar h▸rfl
def V.jW{b}(h:v.s? =some b):v= .str b:=by cases v<;>first | exact aQ h | exact ar h▸rfl
def V.oV{b}(h:v.l? =some b):v= .lst b:=by cases v<;>first | exact aQ h | exact ar h▸rfl
def V.rX{b}(h:v.t? =some b):v= .tup b:=by cases v<;>first | exact aQ h | exact ar h▸rfl
def V.Fb{b}(h:v.r? =some b):v= .ref b:=by cases v<;>first | exact aQ h | exact ar h▸rfl
def V.Ta{b}(h:v.f? =some b):v= .fn b:=by cases v<;>first | exact aQ h | exact ar h▸rfl
def V.QQ{b}(h:v.d? =some b):v= .bH b.1 b.2:=by cases v<;>first | exact aQ h | exact ar h▸rfl
def V.Mn{b}(h:v.e? =some b):v= .exc b.1 b.2.1 b.2.2:=by cases v<;>first | exact aQ h | exact ar h▸rfl
def V.AI{b}(h:v.n? =some b):v= .none:=by cases v<;>first | exact aQ h | rfl
noncomputable def oe{a:Type}(x y:Option a):Option a:=match x with
 | some v=>some v
 | none=>y
def aO{a}{x y}{r:a}{C:Prop}(h:oe x y=some r)(f:x=some r->C)(g:y=some r->C):C:=by
 cases x with
 | some v=>exact f h
 | none=>exact g h
noncomputable def ey{b c:Type}(vs:List b)(f:b->Option c):Option c:=match vs with
 | []=>none
 | a::r=>cond r.isEmpty (f a) none
def iX{b c:Type}(vs:List b)(f:b->b->Option c):Option c:=match vs with
 | []=>none
 | a::r=>ey r (f a)
def Fi{b c:Type}(vs:List b)(f:b->b->b->Option c):Option c:=match vs with
 | []=>none
 | a::r=>iX r (f a)
def oz{b c}{vs:List b}{f}{r:c}(h:ey vs f=some r):∃a,vs= [a]/\f a=some r:=by
 match vs,h with
 | [a],h=>exact ⟨a,rfl,h⟩
def Fj{d e}{vs:List d}{f}{r:e}(h:iX vs f=some r):∃a b,vs= [a,b]/\f a b=some r:=by
 match vs,h with
 | a::l,h=>
  exact (oz h).elim λ b c=>{a,b,congrArg _ c.1,c.2}
def Oz{e g}{vs:List e}{f}{r:g}(h:Fi vs f=some r):∃a b c,vs= [a,b,c]/\f a b c=some r:=by
 match vs,h with
 | a::l,h=>
  exact (Fj h).elim λ b q=>q.elim λ c d=>{a,b,c,congrArg _ d.1,d.2}
noncomputable def zN:List Str:= ["tokens","at","tongue","known","family","table"]
noncomputable def zD:List Str:= ["tokens","at"]
noncomputable def O.qx :O->Option (Addr×List Str×List V)
 | .inst c e f=>some (c,e,f)
 | .zip b d n _ a=>cond b (some (322,zN,.lst d:: .int n::a)) none
 | _=>none
noncomputable def O.tN :O->Option (List Str×List V)
 | .dict c d=>some (c,d)
 | .zip b a n _ _=>cond b none (some (zD,[.lst a,.int n]))
 | _=>none
noncomputable def O.L5 :O->Option (Addr×List Str×List V)
 | .inst c a b=>some (c,a,b)
 | _=>none
noncomputable def O.Mq :O->Option (List Str×List V)
 | .dict a b=>some (a,b)
 | _=>none
variable{o:O}
def O.OZ{p}(h:o.L5 =some p):o= .inst p.1 p.2.1 p.2.2:=by cases o<;>first | exact aQ h | exact ar h▸rfl
def O.Pa{p}(h:o.Mq =some p):o= .dict p.1 p.2:=by cases o<;>first | exact aQ h | exact ar h▸rfl
noncomputable def O.val:O->Prop
 | .zip _ a n b _=>a.drop n=b/\a.length<=100000
 | _=>True
noncomputable def O.x8 :O->Option (Bool×List V×Nat×List V×List V)
 | .zip b d n c a=>some (b,d,n,c,a)
 | _=>none
noncomputable def O.yV :O->Option (List V)
 | .list a=>some a
 | _=>none
noncomputable def O.qk :O->Option (Option (List Str×V))
 | .known o=>some o
 | _=>none
def O.AP{p}(h:o.yV =some p):o= .list p:=by cases o<;>first | exact aQ h | exact ar h▸rfl
def O.xk{p}(h:o.qk =some p):o= .known p:=by cases o<;>first | exact aQ h | exact ar h▸rfl
def ay(ρ:En)(i:Nat):Option V:=ae ρ[i]? id
noncomputable def ma(vs:List V)(i:Int):Option V:=(seqIndex? i vs.length).bind (vs[·]?)
noncomputable def yy(lo hi:Option Int)(x:Str):List Nat:=Builtin.Str.strSliceIndices lo hi 1 x.length
def rL(lo hi:Option Int)(x:Str):Str:=if (yy lo hi x).length==x.length then x else {((yy lo hi x).filterMap (x.cps[·]?)).toArray}
noncomputable def yz(lo hi st:Option Int)(n:Nat):List Nat:=sliceRange (sliceBounds lo hi st n).1 (sliceBounds lo hi st n).2.1 (sliceBounds lo hi st n).2.2
def dU{a:Type}(lo hi st:Option Int)(vs:List a):List a:=(yz lo hi st vs.length).filterMap (vs[·]?)
noncomputable def ig(s:Str):List V:=s.cps.toList.map λ c=> .str {#[c]}
noncomputable def cY:Nat:=16777216
noncomputable def e_(i:Int):Bool:=i.natAbs<2^200
noncomputable def idx(i:Int):Bool:= -1000000000<i && i<1000000000
def iF{i:Int}(h:idx i=true): -2^63<=i/\i<2^63:={Int.le_of_lt (Int.lt_of_le_of_lt ⋯ (gx (nq.mp h).1)),Int.lt_trans (gx (nq.mp h).2) ⋯}
noncomputable def rq{a b:Type}(f:a->Option b):List a->Option (List b)
 | []=>some []
 | v::l=>ae (f v) λ x=>ae (rq f l) λ r=>some (x::r)
def strsOf(l:List V):Option (List Str):=rq V.s? l
def intsOf(l:List V):Option (List Int):=rq V.i? l
def pairOf(v:V):Option (Str×V):=ae v.t? λ l=>iX l λ a b=>ae a.s? λ s=>some (s,b)
def pairsOf(l:List V):Option (List Str×List V):=ae (rq pairOf l) λ a=>some (a.map (·.1),a.map (·.2))
noncomputable def ap(x y:Str):Str:={(x.cps.toList++y.cps.toList).toArray}
def tV(x y):ap x y=x++y:=congrArg Str.mk (by simp)
noncomputable def OV(x:Str):List Str->Str
 | []=>Str.empty
 | [s]=>s
 | s::r=>s++(x++OV x r)
def Oa(v:V):Option Str:=oe v.s? (ae v.i? λ i=>gd (e_ i=true) (some (Str.ofString (toString i))))
noncomputable def oE:List (Option Str)->List V->Option Str
 | [],a=>cond a.isEmpty (some Str.empty) none
 | p::b,a=>match p with
  | some s=>ae (oE b a) λ r=>some (ap s r)
  | none=>match a with
   | []=>none
   | v::a=>ae (Oa v) λ s=>ae (oE b a) λ r=>some (ap s r)
noncomputable def df:List Str->List V->Str->Option V
 | k::a,v::b,x=>if k=x then some v else df a b x
 | _,_,_=>none
def ii(a b:V)(f:Int->Int->Bool):Option Bool:=ae a.i? λ x=>ae b.i? λ y=>some (f x y)
def MP(v:V):Option Nat:=ae v.s? λ x=>ey x.cps.toList some
def pR(p:CmpOp)(a b:V):Option Bool:=match p with
 | .Lt=>ii a b λ x y=>decide (x<y)
 | .LtE=>oe (ii a b λ x y=>decide (x<=y)) (ae (MP a) λ x=>ae (MP b) λ y=>some (decide (x<=y)))
 | .Gt=>ii a b λ x y=>decide (y<x)
 | .GtE=>ii a b λ x y=>decide (y<=x)
 | _=>none
noncomputable def mD(f:V->V->Option Bool):List V->List V->Option Bool
 | [],c=>some c.isEmpty
 | a::d,c=>match c with
  | []=>some false
  | b::c=>ae (f a b) λ x=>ae (mD f d c) λ y=>some (x && y)
def eqB(f:Option (V->V->Option Bool))(a b:V):Option Bool:=
 oe (ae a.n? λ ζ=>oe (ae b.n? λ ζ=>some true) (ae b.s? λ ζ=>some false))
 (oe (ae a.b? λ x=>ae b.b? λ y=>some (x==y)) (oe (ae a.i? λ x=>ae b.i? λ y=>some (x==y)) (oe (ae a.s? λ x=>ae b.s? λ y=>some (x==y))
 (oe (ae a.t? λ x=>oe (ae b.t? λ y=>ae f λ f=>mD f x y) (oe (ae b.s? λ ζ=>some false) (ae b.i? λ ζ=>some false)))
   (ae a.l? λ x=>oe (ae b.l? λ y=>if x.length=y.length then ae f λ f=>mD f x y else some false) (ae b.s? λ ζ=>some false))))))
noncomputable def la:Nat->V->V->Option Bool
 | 0=>eqB none
 | n+1=>eqB (some (la n))
def dictOf(σ:St)(v:V):Option (List Str×List V):=oe v.d? (ae v.r? λ i=>ae σ[i]? λ o=>o.tN)
def oC(σ:St)(v:V):Option (Option (List Str×V)):=ae v.r? λ i=>ae σ[i]? λ o=>o.qk
def L8(v:V)(l:List V):Option Bool:=ae v.s? λ x=>ae (strsOf l) λ a=>some (a.any (· ==x))
noncomputable def isKey(o:Option (List Str×V))(ks:List Str):Bool:=match o with
 | some p=>decide (p.1=ks)
 | none=>false
def fq(σ:St)(v w:V):Option Bool:=
 oe (ae w.t? λ l=>L8 v l) (oe (ae w.l? λ l=>L8 v l) (oe (ae w.s? λ y=>ae v.s? λ x=>some (Txt.contains y x))
 (oe (ae v.s? λ x=>ae (dictOf σ w) λ d=>some (df d.1 d.2 x).isSome) (ae v.t? λ l=>ae (strsOf l) λ b=>ae (oC σ w) λ o=>some (isKey o b)))))
def itemOf(σ:St)(w v:V):Option V:=
 oe (ae w.t? λ l=>ae v.i? λ i=>gd (idx i=true) (ma l i)) (oe (ae w.l? λ l=>ae v.i? λ i=>gd (idx i=true) (ma l i))
 (oe (ae w.s? λ s=>ae v.i? λ i=>gd (idx i=true) (ae (Txt.charAt s i) λ c=>some (.str {#[c]})))
 (oe (ae v.s? λ x=>ae (dictOf σ w) λ d=>df d.1 d.2 x) (ae v.t? λ l=>ae (strsOf l) λ b=>ae (oC σ w) λ o=>ae o λ p=>gd (p.1=b) (some p.2)))))
noncomputable def xC(n:Str)(e:Str×Int×Int):Option V:=if n= "why" then some (.str e.1) else if n= "row" then some (.int e.2.1) else if n= "column" then some (.int e.2.2) else none
def fw(σ:St)(n:Str)(v:V):Option V:=oe (ae v.r? λ i=>ae σ[i]? λ o=>ae o.qx λ q=>df q.2.1 q.2.2 n) (ae v.e? λ e=>xC n e)
def rk(o:Option Bool):Option Bool:=ae o λ b=>some !b
def Qx(σ:St)(a b:V):Option Bool:=
 oe (ae a.b? λ x=>ae b.b? λ y=>some !(x==y)) (oe (ae a.i? λ x=>ae b.i? λ y=>some !(x==y)) (oe (ae a.s? λ x=>ae b.s? λ y=>some !(x==y))
 (oe (ae a.l? λ ζ=>ae b.l? λ ζ=>rk (la 20 a b)) (oe (ae a.t? λ ζ=>ae b.t? λ ζ=>rk (la 20 a b))
 (ae a.r? λ i=>ae σ[i]? λ o=>ae o.yV λ c=>ae b.l? λ l=>gd (l.length=0) (some !c.isEmpty))))))
def Rv(σ:St)(a b:V):Option Bool:=ae a.r? λ i=>ae σ[i]? λ o=>ae o.qk λ q=>oe
 (ae b.QI λ ζ=>gd (q.isNone=true) (some false))
 (ae b.QH λ p=>ae q λ q=>gd (q.1=p.1/\la 20 q.2 p.2=some true) (some false))
def Qb(x:int_private% "Numeral"):Option Int:=(int_private% "Numeral.rec") (motive:=λ ζ=>Option Int) none (λ ζ=>none) none some x
def RN(b:Int)(x:Str):Option V:=gd (¬(((b !=0 && b<2) || b>36)=true)/\x.length<=640/\x.cps.all (· <128)=true/\x.cps.toList.takeWhile (· !=0)=x.cps.toList) (ae (Qb ((int_private% "readNumeral") 0 b.toNat x.cps.toList)) λ n=>some (.int n))
def hF(o:Option Bool):Option V:=ae o λ b=>some (.bool b)
def Qu(s:Str):Option V:=gd (s.length<=cY) (some (.str s))
def iZ(a b:V)(f:Int->Int->Option V):Option V:=ae a.i? λ x=>ae b.i? λ y=>f x y
def ef(v:V):Bool:=v.n?.isSome
def Nw(a b:V):Option V:=oe (iZ a b λ x y=>some (.int (x+y))) (oe (ae a.s? λ x=>ae b.s? λ y=>gd (x.length+y.length<=cY) (some (.str (ap x y))))
 (oe (ae a.l? λ x=>ae b.l? λ y=>gd (x.length+y.length<=1000000) (some (.lst (x++y)))) (ae a.t? λ x=>ae b.t? λ y=>gd (x.length+y.length<=1000000) (some (.tup (x++y))))))
def M1(o:Operator)(a b:V):Option V:=match o with
 | .Add=>Nw a b
 | .Sub=>iZ a b λ x y=>some (.int (x-y))
 | .Mult=>iZ a b λ x y=>gd (e_ x=true/\e_ y=true) (some (.int (x*y)))
 | .FloorDiv=>iZ a b λ x y=>gd (0<y/\y<100000) (some (.int (x.fdiv y)))
 | .Mod=>iZ a b λ x y=>gd (0<y) (some (.int (x.fmod y)))
 | .Pow=>iZ a b λ x y=>gd (e_ x=true/\0<=y/\y<=200) (some (.int (x^y.toNat)))
 | .LShift=>iZ a b λ x y=>gd (e_ x=true/\0<=y/\y<=200) (some (.int (x*2^y.toNat)))
 | .RShift=>iZ a b λ x y=>gd (0<=y/\y<=200) (some (.int (x.fdiv (2^y.toNat))))
 | .BitOr=>iZ a b λ x y=>some (.int (Builtin.bitOr x y))
 | .BitAnd=>iZ a b λ x y=>some (.int (Builtin.bitAnd x y))
 | _=>none
def Dp(o:CmpOp)(σ:St)(a b:V):Option Bool:=match o with
 | .Eq=>la 20 a b
 | .NotEq=>Qx σ a b
 | .In=>fq σ a b
 | .NotIn=>rk (fq σ a b)
 | o=>pR o a b
def Rh(s a:V):Option V:=ae a.i? λ a=>oe (ae s.s? λ s=>gd (idx a=true/\s.length<=cY) (some (.str (rL (some a) none s)))) (ae s.l? λ s=>gd (idx a=true/\s.length<=1000000) (some (.lst (dU (some a) none none s))))
def Rg(s b:V):Option V:=ae b.i? λ b=>oe (ae s.s? λ s=>gd (idx b=true/\s.length<=cY) (some (.str (rL none (some b) s)))) (oe (ae s.l? λ s=>gd (idx b=true/\s.length<=1000000) (some (.lst (dU none (some b) none s))))
 (ae s.t? λ s=>gd ((0<=b/\idx b=true)/\s.length<=1000000) (some (.tup (s.take b.toNat)))))
def NZ(s a b:V):Option V:=ae a.i? λ a=>ae b.i? λ b=>oe (ae s.s? λ s=>gd ((idx a=true/\idx b=true)/\s.length<=cY) (some (.str (rL (some a) (some b) s)))) (ae s.l? λ s=>gd ((idx a=true/\idx b=true)/\s.length<=1000000) (some (.lst (dU (some a) (some b) none s))))
def Rd(s a b:V):Option V:=ae s.l? λ s=>ae a.i? λ a=>ae b.i? λ b=>gd ((0<=a/\idx a=true/\0<b/\idx b=true)/\s.length<=1000000) (some (.lst (dU (some a) none (some b) s)))
def DV(v:V):Option V:=oe (ae v.s? λ s=>gd (s.length<=cY) (some (.int s.length))) (oe (ae v.l? λ l=>gd (l.length<=cY) (some (.int l.length))) (ae v.t? λ l=>gd (l.length<=cY) (some (.int l.length))))
def JF(v:V):Option V:=oe (ae v.s? λ s=>Qu s) (ae v.i? λ i=>gd (e_ i=true) (some (.str (Str.ofString (toString i)))))
def ED(b:x7)(vs:List V):Option V:=match b with
 | .len=>ey vs DV
 | .ord=>ey vs λ v=>ae v.s? λ s=>ey s.cps.toList λ c=>some (.int c)
 | .tuple=>ey vs λ v=>ae v.l? λ l=>gd (l.length<=1000000) (some (.tup l))
 | .list=>ey vs λ v=>ae v.t? λ l=>gd (l.length<=1000000) (some (.lst l))
 | .min=>iX vs λ a b=>iZ a b λ x y=>some (.int (if y<x then y else x))
 | .max=>ey vs λ v=>ae v.t? λ l=>iX l λ a b=>iZ a b λ x y=>some (.int (if x<y then y else x))
 | .sum=>ey vs λ v=>ae v.l? λ l=>ae (intsOf l) λ e=>some (.int e.sum)
 | .str=>ey vs JF
 | .int=>ey vs λ v=>ae v.s? λ x=>gd (x.length<=640) (ae (PySem.intText? x) λ n=>some (.int n))
 | .nC=>iX vs λ a b=>ae a.s? λ x=>ae b.i? λ b=>RN b x
 | .dict=>ey vs λ v=>ae v.l? λ l=>ae (pairsOf l) λ p=>gd (p.1.Nodup/\p.1.length<=1000) (some (.bH p.1 p.2))
def oD(x:Str)(l:List V):Option V:=ae (strsOf l) λ a=>gd (JoinOk x a=true) (some (.str (Txt.join x a)))
def kx(m:Met)(σ:St)(v:V)(vs:List V):Option V:=match m with
 | .split=>ae v.s? λ x=>ey vs λ b=>ae b.s? λ y=>gd (y.length≠0/\x.length<=cY/\(Builtin.Str.partsBetween x (Builtin.Str.occurrences x y 0 x.length (x.length+1)) y.length).length<=cY) (some (.lst ((Txt.split x y).map .str)))
 | .find=>ae v.s? λ x=>ey vs λ b=>ae b.s? λ y=>some (.int (Txt.find x y))
 | .lower=>ae v.s? λ x=>gd (vs.length=0/\Builtin.Str.tooLong (Txt.lower x).length=false) (some (.str (Txt.lower x)))
 | .strip=>ae v.s? λ x=>ey vs λ b=>ae b.s? λ y=>gd (x.length<=cY) (some (.str (Txt.stripChars x y)))
 | .join=>ae v.s? λ x=>ey vs λ b=>oe (ae b.l? λ l=>oD x l) (ae b.t? λ l=>oD x l)
 | .pK=>ae (dictOf σ v) λ p=>ey vs λ k=>ae k.s? λ k=>some ((df p.1 p.2 k).getD .none)
 | .eH=>ae (dictOf σ v) λ p=>iX vs λ k w=>ae k.s? λ k=>some ((df p.1 p.2 k).getD w)
def prim(p:Pr)(σ:St)(vs:List V):Option V:=match p with
 | .bin o=>iX vs λ a b=>M1 o a b
 | .cmp o=>iX vs λ a b=>hF (Dp o σ a b)
 | .sj=>iX vs λ a b=>hF (Rv σ a b)
 | .neg=>ey vs λ a=>ae a.i? λ x=>some (.int (-x))
 | .not=>ey vs λ a=>ae a.b? λ x=>some (.bool !x)
 | .iE=>ey vs λ a=>some (.bool (ef a))
 | .vf=>ey vs λ a=>some (.bool !(ef a))
 | .item=>iX vs λ w v=>itemOf σ w v
 | .mN=>iX vs λ s a=>Rh s a
 | .gK=>iX vs λ s a=>Rg s a
 | .mM=>Fi vs λ s a b=>NZ s a b
 | .mL=>Fi vs λ s a b=>Rd s a b
 | .tup=>gd (vs.length<=1000) (some (.tup vs))
 | .lst=>gd (vs.length<=1000) (some (.lst vs))
 | .bH d=>gd (d.length=vs.length/\d.Nodup) (some (.bH d vs))
 | .j7=>gd (vs.length=0) (some .j7)
 | .j6=>iX vs λ a v=>ae a.t? λ l=>ae (strsOf l) λ d=>some (.j6 d v)
 | .ek b=>ED b vs
 | .y5 e=>ae (oE e vs) Qu
 | .attr n=>ey vs λ v=>fw σ n v
 | .oB _=>Fi vs λ w r c=>ae w.s? λ w=>ae r.i? λ r=>ae c.i? λ c=>some (.exc w r c)
def qh(p:Met)(σ:St)(v:V):Bool:=match p with
 | .pK=>(dictOf σ v).isSome
 | .eH=>(dictOf σ v).isSome
 | _=>v.s?.isSome
def nE(σ:St)(v:V)(n:Str):Bool:=(ae v.r? λ i=>ae σ[i]? λ o=>ae o.qx λ q=>some (q.1==322 && (df q.2.1 q.2.2 n).isNone)).getD false
mutual
noncomputable def dR(t:Tg)(v:V)(ρ:En):Option En:=match t with
 | .loc i=>gd (i<ρ.length) (some (ρ.set i (some v)))
 | .tup b=>ae v.t? λ a=>lL b a ρ
noncomputable def lL(b:List Tg)(a:List V)(ρ:En):Option En:=match b with
 | []=>cond a.isEmpty (some ρ) none
 | t::b=>match a with
  | []=>none
  | v::a=>ae (dR t v ρ) λ c=>lL b a c
end
mutual
noncomputable def bw:Tg->List Nat
 | .loc i=> [i]
 | .tup a=>fE a
noncomputable def fE:List Tg->List Nat
 | []=> []
 | t::a=>bw t++fE a
end
noncomputable def ll(is:List Nat)(ρ:En):En:=is.foldl (λ ρ i=>ρ.set i none) ρ
def vd(v:V):Option (List V):=oe v.l? (ae v.s? λ s=>some (ig s))
def itemsOf(v:V):Option (List V):=oe v.t? (vd v)
noncomputable def cp(a:Int)(n:Nat):List V:=(List.range n).map λ (i:Nat)=> .int (a+(i:Int))
noncomputable def e8(a:Nat):List V->List V
 | []=> []
 | v::r=> .tup [.int a,v]::e8 (a+1) r
noncomputable def bB(ks:List Str)(vs:List V)(k:Str)(v:V):List Str×List V:=match ks,vs with
 | a::ks,b::vs=>if a=k then (a::ks,v::vs) else let r:=bB ks vs k v;(a::r.1,b::r.2)
 | _,_=>([k],[v])
def setItem(σ:St)(w k v:V):Option St:=ae w.r? λ i=>ae σ[i]? λ o=>oe
 (ae o.Mq λ p=>ae k.s? λ k=>gd (p.1.length<=1000) (some (σ.set i (.dict (bB p.1 p.2 k v).1 (bB p.1 p.2 k v).2))))
 (ae o.qk λ q=>gd (q.isNone=true) (ae k.t? λ l=>ae (strsOf l) λ a=>some (σ.set i (.known (some (a,v))))))
def hO(σ:St)(w:V)(n:Str)(v:V):Option St:=ae w.r? λ i=>ae σ[i]? λ o=>ae o.L5 λ p=>gd (p.2.1.length<=900) (some (σ.set i (.inst p.1 (bB p.2.1 p.2.2 n v).1 (bB p.2.1 p.2.2 n v).2)))
noncomputable def K5{c:Type}(p:Operator)(a b:Option c):Option c:=match p with
 | .Add=>a
 | .Sub=>b
 | _=>none
def K4{c:Type}{p:Operator}{a b:Option c}{r:c}(C:Operator->Prop)(h:K5 p a b=some r)(d:a=some r->C .Add)(e:b=some r->C .Sub):C p:=by
 cases p<;>first | exact d h | exact e h | exact aQ h
def O.EL{o:O}{z:Bool×List V×Nat×List V×List V}(h:o.x8 =some z):o= .zip z.1 z.2.1 z.2.2.1 z.2.2.2.1 z.2.2.2.2:=by cases o<;>first | exact ar h▸rfl | exact aQ h
def mG(p:Operator)(σ:St)(w:V)(m:Str)(b:V):Option St:=ae w.r? λ i=>ae σ[i]? λ o=>ae o.x8 λ z=>ae b.i? λ j=>gd (m= "at") (K5 p
 (oe (gd (j=1) (some (σ.set i (.zip z.1 z.2.1 (z.2.2.1+1) z.2.2.2.1.tail z.2.2.2.2)))) (gd (j=0) (some (σ.set i (.zip z.1 z.2.1 z.2.2.1 z.2.2.2.1 z.2.2.2.2)))))
 (gd (j=1/\1<=z.2.2.1) (some (σ.set i (.zip z.1 z.2.1 (z.2.2.1-1) (z.2.1.drop (z.2.2.1-1)) z.2.2.2.2)))))
noncomputable def jv(σ:St)(w:V)(a:List Str)(vs:List V):Option St:=match a with
 | []=>cond vs.isEmpty (some σ) none
 | n::a=>match vs with
  | []=>none
  | v::vs=>ae (hO σ w n v) λ b=>jv b w a vs
def iV(p:Operator)(a b:V):Option V:=match p with
 | .Add=>iZ a b λ x y=>some (.int (x+y))
 | .Sub=>iZ a b λ x y=>some (.int (x-y))
 | _=>none
def args(a:Fn)(vs:List V):Option En:=
 gd (vs.length<=a.np/\a.np<=vs.length+a.kc.length/\a.np<=a.ns)
  (some ((vs++a.kc.drop (vs.length+a.kc.length-a.np)).map some++List.replicate (a.ns-a.np) none))
def headOf(σ:St)(i:Nat):Option (V×List V):=ae σ[i]? λ o=>ae o.yV λ l=>match l with
 | v::l=>some (v,l)
 | []=>none
def tx(σ:St)(w:V)(a:List Str)(v:V):Option St:=match a with
 | [n]=>hO σ w n v
 | a=>ae v.t? λ b=>jv σ w a b
end
section
noncomputable def Qv{a:Type}:a->Bool:=λ ζ=>false
def qe{b}{C:b->Prop}:∀a,Qv a=true->C a:=λ ζ h=>absurd h cK
noncomputable def w7{a b:Type}:a->b->Bool:=λ ζ ζ=>false
def aU{c d}{C:c->d->Prop}:∀a b,w7 a b=true->C a b:=λ ζ ζ h=>absurd h cK
noncomputable def oQ{a b c:Type}:a->b->c->Bool:=λ ζ ζ ζ=>false
def av{d e f}{C:d->e->f->Prop}:∀a b c,oQ a b c=true->C a b c:=λ ζ ζ ζ h=>absurd h cK
noncomputable def mZ{a b c d:Type}:a->b->c->d->Bool:=λ ζ ζ ζ ζ=>false
def aq{e f g i}{C:e->f->g->i->Prop}:∀a b c d,mZ a b c d=true->C a b c d:=λ ζ ζ ζ ζ h=>absurd h cK
noncomputable def Lb{a b c d e:Type}:a->b->c->d->e->Bool:=λ ζ ζ ζ ζ ζ=>false
def hG{f g i j k}{C:f->g->i->j->k->Prop}:∀a b c d e,Lb a b c d e=true->C a b c d e:=λ ζ ζ ζ ζ ζ h=>absurd h cK
noncomputable def eV(E:Expr)(k0:BoolOp->(List Expr)->Pos->Bool:=oQ)(k1:Expr->Operator->Expr->Pos->Bool:=mZ)(k2:UnaryOp->Expr->Pos->Bool:=oQ)(k3:Expr->Expr->Expr->Pos->Bool:=mZ)(k4:(List (Option Expr))->(List Expr)->Pos->Bool:=oQ)(k5:Expr->(List Comprehension)->Scope->Pos->Bool:=mZ)(k6:Expr->(List CmpOp)->(List Expr)->Pos->Bool:=mZ)(k7:Expr->(List Expr)->(List Keyword)->Pos->Bool:=mZ)(k8:Expr->Int->(Option Expr)->Pos->Bool:=mZ)(k9:(List Expr)->Pos->Bool:=w7)(k10:Const->Nat->Pos->Bool:=oQ)(k11:Expr->Str->Pos->Bool:=oQ)(k12:Expr->Expr->Pos->Bool:=oQ)(k13:Str->Pos->Bool:=w7)(k14:(List Expr)->Pos->Bool:=w7)(k15:(List Expr)->Nat->Pos->Bool:=oQ)(k16:(Option Expr)->(Option Expr)->(Option Expr)->Pos->Bool:=mZ):Bool:=match E with
 | .BoolOp g d p=>k0 g d p
 | .BinOp l g r p=>k1 l g r p
 | .UnaryOp g x p=>k2 g x p
 | .IfExp t a b p=>k3 t a b p
 | .Dict o z p=>k4 o z p
 | .ListComp e j y p=>k5 e j y p
 | .Compare l h u p=>k6 l h u p
 | .Call f args q p=>k7 f args q p
 | .FormattedValue e c s p=>k8 e c s p
 | .JoinedStr d p=>k9 d p
 | .Constant c k p=>k10 c k p
 | .Attribute v n p=>k11 v n p
 | .Subscript v i p=>k12 v i p
 | .Name x p=>k13 x p
 | .List d p=>k14 d p
 | .Tuple d k p=>k15 d k p
 | .Slice lo m st p=>k16 lo m st p
 | _=>false
def eJ{E}{k0}{k1}{k2}{k3}{k4}{k5}{k6}{k7}{k8}{k9}{k10}{k11}{k12}{k13}{k14}{k15}{k16}(C:Expr->Prop)(h:eV E k0 k1 k2 k3 k4 k5 k6 k7 k8 k9 k10 k11 k12 k13 k14 k15 k16=true)
 (D:∀op es p,k0 op es p=true->C (.BoolOp op es p)) (F:∀l op r p,k1 l op r p=true->C (.BinOp l op r p)) (G:∀op x p,k2 op x p=true->C (.UnaryOp op x p)) (H:∀t a b p,k3 t a b p=true->C (.IfExp t a b p)) (I:∀ks vs p,k4 ks vs p=true->C (.Dict ks vs p)) (J:∀e z sc p,k5 e z sc p=true->C (.ListComp e z sc p)) (L:∀l d B p,k6 l d B p=true->C (.Compare l d B p)) (M:∀f args A p,k7 f args A p=true->C (.Call f args A p)) (N:∀e c s p,k8 e c s p=true->C (.FormattedValue e c s p)) (P:∀es p,k9 es p=true->C (.JoinedStr es p)) (g:∀c k p,k10 c k p=true->C (.Constant c k p)) (j:∀v n p,k11 v n p=true->C (.Attribute v n p)) (m:∀v i p,k12 v i p=true->C (.Subscript v i p)) (o:∀x p,k13 x p=true->C (.Name x p)) (q:∀es p,k14 es p=true->C (.List es p)) (u:∀es k p,k15 es k p=true->C (.Tuple es k p)) (y:∀lo hi st p,k16 lo hi st p=true->C (.Slice lo hi st p)):C E:=by
 cases E
 case BoolOp=>exact D _ _ _ h
 case BinOp=>exact F _ _ _ _ h
 case UnaryOp=>exact G _ _ _ h
 case IfExp=>exact H _ _ _ _ h
 case Dict=>exact I _ _ _ h
 case ListComp=>exact J _ _ _ _ h
 case Compare=>exact L _ _ _ _ h
 case Call=>exact M _ _ _ _ h
 case FormattedValue=>exact N _ _ _ _ h
 case JoinedStr=>exact P _ _ h
 case Constant=>exact g _ _ _ h
 case Attribute=>exact j _ _ _ h
 case Subscript=>exact m _ _ _ h
 case Name=>exact o _ _ h
 case List=>exact q _ _ h
 case Tuple=>exact u _ _ _ h
 case Slice=>exact y _ _ _ _ h
 all_goals exact absurd h cK
def Jq(E:Expr)(a:BoolOp->(List Expr)->Pos->Bool):Bool:=eV E (k0:=a)
def Jp{E}{a}(C:Expr->Prop)(h:Jq E a=true)(g:∀op es p,a op es p=true->C (.BoolOp op es p)):C E:=eJ C h g aq av aq av aq aq aq aq aU av av av aU aU av aq
def yb(E:Expr)(a:Expr->Operator->Expr->Pos->Bool):Bool:=eV E (k1:=a)
def t6{E}{a}(C:Expr->Prop)(h:yb E a=true)(g:∀l op r p,a l op r p=true->C (.BinOp l op r p)):C E:=eJ C h av g av aq av aq aq aq aq aU av av av aU aU av aq
def Jm(E:Expr)(a:UnaryOp->Expr->Pos->Bool):Bool:=eV E (k2:=a)
def ES{E}{a}(C:Expr->Prop)(h:Jm E a=true)(g:∀op x p,a op x p=true->C (.UnaryOp op x p)):C E:=eJ C h av aq g aq av aq aq aq aq aU av av av aU aU av aq
def PH(E:Expr)(a:Expr->Expr->Expr->Pos->Bool):Bool:=eV E (k3:=a)
def NL{E}{c}(C:Expr->Prop)(h:PH E c=true)(g:∀t a b p,c t a b p=true->C (.IfExp t a b p)):C E:=eJ C h av aq av g av aq aq aq aq aU av av av aU aU av aq
def jT(E:Expr)(a:(List (Option Expr))->(List Expr)->Pos->Bool):Bool:=eV E (k4:=a)
def hJ{E}{a}(C:Expr->Prop)(h:jT E a=true)(g:∀ks vs p,a ks vs p=true->C (.Dict ks vs p)):C E:=eJ C h av aq av aq g aq aq aq aq aU av av av aU aU av aq
def ya(E:Expr)(a:Expr->(List Comprehension)->Scope->Pos->Bool):Bool:=eV E (k5:=a)
def wm{E}{b}(C:Expr->Prop)(h:ya E b=true)(g:∀e a sc p,b e a sc p=true->C (.ListComp e a sc p)):C E:=eJ C h av aq av aq av g aq aq aq aU av av av aU aU av aq
def t5(E:Expr)(a:Expr->(List CmpOp)->(List Expr)->Pos->Bool):Bool:=eV E (k6:=a)
def pU{E}{c}(C:Expr->Prop)(h:t5 E c=true)(g:∀l a b p,c l a b p=true->C (.Compare l a b p)):C E:=eJ C h av aq av aq av aq g aq aq aU av av av aU aU av aq
def tu(E:Expr)(a:Expr->(List Expr)->(List Keyword)->Pos->Bool):Bool:=eV E (k7:=a)
def qN{E}{b}(C:Expr->Prop)(h:tu E b=true)(g:∀f args a p,b f args a p=true->C (.Call f args a p)):C E:=eJ C h av aq av aq av aq aq g aq aU av av av aU aU av aq
def Jo(E:Expr)(a:Expr->Int->(Option Expr)->Pos->Bool):Bool:=eV E (k8:=a)
def Jn{E}{a}(C:Expr->Prop)(h:Jo E a=true)(g:∀e c s p,a e c s p=true->C (.FormattedValue e c s p)):C E:=eJ C h av aq av aq av aq aq aq g aU av av av aU aU av aq
def EU(E:Expr)(a:(List Expr)->Pos->Bool):Bool:=eV E (k9:=a)
def GI{E}{a}(C:Expr->Prop)(h:EU E a=true)(g:∀es p,a es p=true->C (.JoinedStr es p)):C E:=eJ C h av aq av aq av aq aq aq aq g av av av aU aU av aq
def kG(E:Expr)(a:Const->Nat->Pos->Bool):Bool:=eV E (k10:=a)
def lC{E}{a}(C:Expr->Prop)(h:kG E a=true)(g:∀c k p,a c k p=true->C (.Constant c k p)):C E:=eJ C h av aq av aq av aq aq aq aq aU g av av aU aU av aq
def i4(E:Expr)(a:Expr->Str->Pos->Bool):Bool:=eV E (k11:=a)
def fy{E}{a}(C:Expr->Prop)(h:i4 E a=true)(g:∀v n p,a v n p=true->C (.Attribute v n p)):C E:=eJ C h av aq av aq av aq aq aq aq aU av g av aU aU av aq
def qM(E:Expr)(a:Expr->Expr->Pos->Bool):Bool:=eV E (k12:=a)
def mI{E}{a}(C:Expr->Prop)(h:qM E a=true)(g:∀v i p,a v i p=true->C (.Subscript v i p)):C E:=eJ C h av aq av aq av aq aq aq aq aU av av g aU aU av aq
def dZ(E:Expr)(a:Str->Pos->Bool):Bool:=eV E (k13:=a)
def cz{E}{a}(C:Expr->Prop)(h:dZ E a=true)(g:∀x p,a x p=true->C (.Name x p)):C E:=eJ C h av aq av aq av aq aq aq aq aU av av av g aU av aq
def pT(E:Expr)(a:(List Expr)->Pos->Bool):Bool:=eV E (k14:=a)
def n9{E}{a}(C:Expr->Prop)(h:pT E a=true)(g:∀es p,a es p=true->C (.List es p)):C E:=eJ C h av aq av aq av aq aq aq aq aU av av av aU g av aq
def fU(E:Expr)(a:(List Expr)->Nat->Pos->Bool):Bool:=eV E (k15:=a)
def eD{E}{a}(C:Expr->Prop)(h:fU E a=true)(g:∀es k p,a es k p=true->C (.Tuple es k p)):C E:=eJ C h av aq av aq av aq aq aq aq aU av av av aU aU g aq
def tZ(E:Expr)(a:(Option Expr)->(Option Expr)->(Option Expr)->Pos->Bool):Bool:=eV E (k16:=a)
def CH{E}{a}(C:Expr->Prop)(h:tZ E a=true)(g:∀lo hi st p,a lo hi st p=true->C (.Slice lo hi st p)):C E:=eJ C h av aq av aq av aq aq aq aq aU av av av aU aU av g
noncomputable def sV(E:Stmt)(k0:Expr->Pos->Bool:=w7)(k1:(List Expr)->Expr->Pos->Bool:=oQ)(k2:Expr->Operator->Expr->Pos->Bool:=mZ)(k3:Expr->(List Stmt)->(List Stmt)->Pos->Bool:=mZ)(k4:Expr->(List Stmt)->(List Stmt)->Pos->Bool:=mZ)(k5:Expr->Expr->(List Stmt)->(List Stmt)->Pos->Bool:=Lb)(k6:Pos->Bool:=Qv)(k7:(Option Expr)->Pos->Bool:=w7)(k8:(Option Expr)->(Option Expr)->Pos->Bool:=oQ)(k9:(List Stmt)->(List ExceptHandler)->(List Stmt)->(List Stmt)->Pos->Bool:=Lb):Bool:=match E with
 | .Expr e p=>k0 e p
 | .Assign g v p=>k1 g v p
 | .AugAssign t f v p=>k2 t f v p
 | .If t a b p=>k3 t a b p
 | .While t a b p=>k4 t a b p
 | .For t i a b p=>k5 t i a b p
 | .Break p=>k6 p
 | .Return e p=>k7 e p
 | .Raise e c p=>k8 e c p
 | .Try a d b c p=>k9 a d b c p
 | _=>false
def km{E}{k0}{k1}{k2}{k3}{k4}{k5}{k6}{k7}{k8}{k9}(C:Stmt->Prop)(h:sV E k0 k1 k2 k3 k4 k5 k6 k7 k8 k9=true)
 (g:∀e p,k0 e p=true->C (.Expr e p)) (j:∀f v p,k1 f v p=true->C (.Assign f v p)) (k:∀t op v p,k2 t op v p=true->C (.AugAssign t op v p)) (l:∀t a b p,k3 t a b p=true->C (.If t a b p)) (m:∀t a b p,k4 t a b p=true->C (.While t a b p)) (n:∀t i a b p,k5 t i a b p=true->C (.For t i a b p)) (o:∀p,k6 p=true->C (.Break p)) (q:∀e p,k7 e p=true->C (.Return e p)) (r:∀e c p,k8 e c p=true->C (.Raise e c p)) (s:∀a d b c p,k9 a d b c p=true->C (.Try a d b c p)):C E:=by
 cases E
 case Expr=>exact g _ _ h
 case Assign=>exact j _ _ _ h
 case AugAssign=>exact k _ _ _ _ h
 case If=>exact l _ _ _ _ h
 case While=>exact m _ _ _ _ h
 case For=>exact n _ _ _ _ _ h
 case Break=>exact o _ h
 case Return=>exact q _ _ h
 case Raise=>exact r _ _ _ h
 case Try=>exact s _ _ _ _ _ h
 all_goals exact absurd h cK
def tC(E:Stmt)(a:Expr->Pos->Bool):Bool:=sV E (k0:=a)
def q9{E}{a}(C:Stmt->Prop)(h:tC E a=true)(g:∀e p,a e p=true->C (.Expr e p)):C E:=km C h g av aq aq aq hG qe aU av hG
def Kk(E:Stmt)(a:(List Expr)->Expr->Pos->Bool):Bool:=sV E (k1:=a)
def Kj{E}{b}(C:Stmt->Prop)(h:Kk E b=true)(g:∀a v p,b a v p=true->C (.Assign a v p)):C E:=km C h aU g aq aq aq hG qe aU av hG
def yr(E:Stmt)(a:Expr->Operator->Expr->Pos->Bool):Bool:=sV E (k2:=a)
def uw{E}{a}(C:Stmt->Prop)(h:yr E a=true)(g:∀t op v p,a t op v p=true->C (.AugAssign t op v p)):C E:=km C h aU av g aq aq hG qe aU av hG
def P_(E:Stmt)(a:Expr->(List Stmt)->(List Stmt)->Pos->Bool):Bool:=sV E (k3:=a)
def N3{E}{c}(C:Stmt->Prop)(h:P_ E c=true)(g:∀t a b p,c t a b p=true->C (.If t a b p)):C E:=km C h aU av aq g aq hG qe aU av hG
def Kb(E:Stmt)(a:Expr->(List Stmt)->(List Stmt)->Pos->Bool):Bool:=sV E (k4:=a)
def Ka{E}{c}(C:Stmt->Prop)(h:Kb E c=true)(g:∀t a b p,c t a b p=true->C (.While t a b p)):C E:=km C h aU av aq aq g hG qe aU av hG
def Kg(E:Stmt)(a:Expr->Expr->(List Stmt)->(List Stmt)->Pos->Bool):Bool:=sV E (k5:=a)
def Ke{E}{c}(C:Stmt->Prop)(h:Kg E c=true)(g:∀t i a b p,c t i a b p=true->C (.For t i a b p)):C E:=km C h aU av aq aq aq g qe aU av hG
def Ki(E:Stmt)(a:Pos->Bool):Bool:=sV E (k6:=a)
def Kh{E}{a}(C:Stmt->Prop)(h:Ki E a=true)(g:∀p,a p=true->C (.Break p)):C E:=km C h aU av aq aq aq hG g aU av hG
def Dh(E:Stmt)(a:(Option Expr)->Pos->Bool):Bool:=sV E (k7:=a)
def ur{E}{a}(C:Stmt->Prop)(h:Dh E a=true)(g:∀e p,a e p=true->C (.Return e p)):C E:=km C h aU av aq aq aq hG qe g av hG
def E3(E:Stmt)(a:(Option Expr)->(Option Expr)->Pos->Bool):Bool:=sV E (k8:=a)
def GZ{E}{a}(C:Stmt->Prop)(h:E3 E a=true)(g:∀e c p,a e c p=true->C (.Raise e c p)):C E:=km C h aU av aq aq aq hG qe aU g hG
def Kd(E:Stmt)(a:(List Stmt)->(List ExceptHandler)->(List Stmt)->(List Stmt)->Pos->Bool):Bool:=sV E (k9:=a)
def Kc{E}{e}(C:Stmt->Prop)(h:Kd E e=true)(g:∀a d b c p,e a d b c p=true->C (.Try a d b c p)):C E:=km C h aU av aq aq aq hG qe aU av g
noncomputable def Jk(E:X)(a:Nat->Bool):Bool:=match E with
 | .loc i=>a i
 | _=>false
def Jj{E}{a}(C:X->Prop)(h:Jk E a=true)(g:∀i,a i=true->C (.loc i)):C E:=by
 cases E<;>first | exact g _ h | exact absurd h cK
noncomputable def EM(E:X)(c:X->Tg->It->(List X)->Bool):Bool:=match E with
 | .comp e t b a=>c e t b a
 | _=>false
def GF{E}{c}(C:X->Prop)(h:EM E c=true)(g:∀e t b a,c e t b a=true->C (.comp e t b a)):C E:=by
 cases E<;>first | exact g _ _ _ _ h | exact absurd h cK
noncomputable def CR(E:Tg)(a:Nat->Bool):Bool:=match E with
 | .loc i=>a i
 | _=>false
def uc{E}{a}(C:Tg->Prop)(h:CR E a=true)(g:∀i,a i=true->C (.loc i)):C E:=by
 cases E<;>first | exact g _ h | exact absurd h cK
noncomputable def Jy(E:Tg)(b:(List Tg)->Bool):Bool:=match E with
 | .tup a=>b a
 | _=>false
def Jw{E}{b}(C:Tg->Prop)(h:Jy E b=true)(g:∀a,b a=true->C (.tup a)):C E:=by
 cases E<;>first | exact g _ h | exact absurd h cK
noncomputable def u1{b:Type}(l:List b)(c:b->Bool):Bool:=match l with
 | a::r=>r.isEmpty && c a
 | []=>false
def c6{c}{l}{b}(C:List c->Prop)(h:u1 l b=true)(g:∀a,b a=true->C [a]):C l:=by
 cases l with
 | nil=>exact absurd h cK
 | cons a r=>
  cases r with
  | nil=>exact g a h
  | cons _ _=>exact absurd h cK
def u2{b:Type}(l:List b)(c:b->b->Bool):Bool:=match l with
 | a::r=>u1 r (c a)
 | []=>false
def qP{d}{l}{c}(C:List d->Prop)(h:u2 l c=true)(g:∀a b,c a b=true->C [a,b]):C l:=by
 cases l with
 | nil=>exact absurd h cK
 | cons a r=>exact c6 (λ r=>C _) h λ b=>g a b
noncomputable def uS{b:Type}(o:Option b)(c:b->Bool):Bool:=match o with
 | some a=>c a
 | none=>false
def e9{c}{o}{b}(C:Option c->Prop)(h:uS o b=true)(g:∀a,b a=true->C (some a)):C o:=by
 cases o with
 | none=>exact absurd h cK
 | some a=>exact g a h
variable{α:Type}
def qO{o}(C:Option α->Prop)(h:o.isNone=true)(g:C none):C o:=by simp_all
def b4{l:List α}(C:List α->Prop)(h:l.isEmpty=true)(g:C []):C l:=by grind
def CK{α}{o:Option α}{b}(h:uS o b=true):∃a,o=some a/\b a=true:=e9 (λ o=>∃a,o=some a/\b a=true) h λ a h=>⟨a,rfl,h⟩
def an{a b}(h:(a && b)=true):a=true/\b=true:=by simp_all
variable{C:Prop}
def orr{a b}(h:(a || b)=true)(f:a=true->C)(g:b=true->C):C:=by lia
def nt{b}(h:(!b)=true):b=false:=by lia
def bq[BEq α][LawfulBEq α]{a b:α}(h:(a==b)=true):a=b:=gU h
def bn[BEq α][LawfulBEq α]{a b:α}(h:(a !=b)=true):a≠b:=bne_iff_ne.mp h
def ab{α a}{o}{f:α->Option a}{r}(h:ae o f=some r)(g:∀v,o=some v->f v=some r->C):C:=by
 cases o with
 | none=>contradiction
 | some v=>exact g v rfl h
def aR{α}{c}[d:Decidable c]{x:Option α}{r}(h:gd c x=some r)(g:c->x=some r->C):C:=g (eg h).1 (eg h).2
section
variable{K:iO}{P:Params}{ν H:List Addr}{hp:Heap}{a:V}{m:Value}
def cf{x}(C:Value->Prop)(e:a.i? =some x)(r:Rep K P ν H hp a m)(g:∀t,C (.int x t)):C m:=by
 cases V.o6 e;cases r with | intro t e=>exact e▸g t
def bf{x}(C:Value->Prop)(e:a.s? =some x)(r:Rep K P ν H hp a m)(g:∀t,C (.str x t)):C m:=by
 cases V.jW e;cases r with | intro t e=>exact e▸g t
def yv{x}(C:Value->Prop)(e:a.b? =some x)(r:Rep K P ν H hp a m)(g:C (.bool x)):C m:=by
 cases V.o_ e;exact r▸g
def eG{x}(C:Value->Prop)(e:a.l? =some x)(r:Rep K P ν H hp a m)(g:∀b mvs,b∉H->SeqAt hp b "list" mvs->aj K P ν H hp x mvs->C (.ref b)):C m:=by
 cases V.oV e;exact r.elim λ b q=>q.elim λ mvs c=>c.1▸g b mvs c.2.1 c.2.2.1 c.2.2.2
def d6{x}(C:Value->Prop)(e:a.t? =some x)(r:Rep K P ν H hp a m)(g:∀b mvs,b∉H->SeqAt hp b "tuple" mvs->aj K P ν H hp x mvs->C (.ref b)):C m:=by
 cases V.rX e;exact r.elim λ b q=>q.elim λ mvs c=>c.1▸g b mvs c.2.1 c.2.2.1 c.2.2.2
def iq{i}(C:Value->Prop)(e:a.r? =some i)(r:Rep K P ν H hp a m)(g:∀b,ν[i]? =some b->C (.ref b)):C m:=by
 cases V.Fb e;exact r.elim λ b c=>c.1▸g b c.2
def fJ{vs}{ms}{f:V->Option V}{v}(C:List _->Prop)(e:ey vs f=some v)(r:aj K P ν H hp vs ms)(g:∀a m,f a=some v->Rep K P ν H hp a m->C [m]):C ms:=by
 obtain ⟨a,q,e⟩:=oz e;subst q;obtain ⟨m,l,q,b,c⟩:=r;subst c;exact q▸g a m e b
def tH{vs}{ms}{f:V->V->Option V}{v}(C:List _->Prop)(e:iX vs f=some v)(r:aj K P ν H hp vs ms)(g:∀a b m n,f a b=some v->Rep K P ν H hp a m->Rep K P ν H hp b n->C [m,n]):C ms:=by
 cases vs with
 | nil=>contradiction
 | cons a l=>
  obtain ⟨m,ms,q,d,c⟩:=r;exact q▸fJ (λ ms=>C _) e c λ b n e c=>g a b m n e d c
def oA{a b}{m n}{f}{v}(C:Value->Value->Prop)(e:iZ a b f=some v)(r1:Rep K P ν H hp a m)(h:Rep K P ν H hp b n)(g:∀x y t u,f x y=some v->C (.int x t) (.int y u)):C m n:=
 ab e λ x c e=>ab e λ y d e=>cf (λ m=>C m n) c r1 λ t=>cf _ d h λ u=>g x y t u e
end
end
section
noncomputable abbrev KA:iO:={64}
abbrev Rp(c:Cx)(h:Heap):V->Value->Prop:=Rep KA Pw c.ν c.H h
abbrev cy(c:Cx)(h:Heap):List V->List Value->Prop:=aj KA Pw c.ν c.H h
variable{c:Cx}{h:Heap}
def aN.push(o):aN KA c h c (h.push o):=
 .of_keeps λ ζ ζ e=>b9 _ e
variable{h':Heap}{F:List Addr}
def aN.slots(x:Heap.SlotsOnly F h h')(d:∀b∈F,b∈c.Fs):aN KA c h c h':={λ b o e ζ f=>{o,(x.2.1 b λ m=>f (d b m))▸e,.refl o},λ b o e ζ ζ=>x.2.2 b o e,λ b o e=>(x.2.2 b o e).elim λ g a=>⟨_,a⟩,λ ζ x=> .inl x,λ ζ x=> .inl x,λ ζ x=> .inl x,λ ζ x=>x,λ ζ ζ e=>e,λ ζ ζ e=>e}
def jM(h:Heap)(a)(f):(h.update a f).objs.size=h.objs.size:=Heap.size_after_update h a f
variable{a:Addr}{o:Obj}{ws:Array Value}
theorem aN.fields(f)(e:h.get? a=some o)(k:o.data= .fields ws)(hsz:(f ws).size=ws.size)(l:o.cls= .type "traceback"∨(o.cls= .ref 64/\∃v,(f ws)[1]? =some v/\fS c (h.update a (Obj.mapFields f)) v))(n:a∉c.Fs)(p:a∉c.H):
 aN KA c h c (h.update a (Obj.mapFields f)):=by
 have d:=qr _ e (Obj.isFreed_of_fields (Obj.data_mapFields k f));have g:∀b,b≠a->(h.update a (Obj.mapFields f)).get? b=h.get? b:=λ b q=>nA _ _ (Ne.symm q);refine {λ b j i ζ ζ=> ?_,λ b j i ζ m=>{j.slots,(g b λ q=>n (q▸m))▸i},λ b j i=> ?_,λ ζ x=> .inl x,λ ζ x=> .inl x,λ ζ x=> .inl x,λ ζ x=>x,λ ζ ζ e=>e,λ ζ ζ e=>e}
 ·by_cases q:b=a
  ·subst q;cases e.symm.trans i;refine {_,d,λ m=>absurd m p,?_};obtain ⟨_,_,_,_⟩:=o;cases k;exact .fld ws _ _ rfl hsz l
  ·exact {j,g b q▸i,.refl _}
 ·by_cases q:b=a
  ·subst q;exact ⟨_,d⟩
  ·exact {j,g b q▸i}
def x4(o:Obj):Prop:=∃b n,o.data= .dict b n
inductive QV(h:Heap)(c:Cx)(env:Env):Prop
 | mk (L:Addr) (o:Obj) (k:env.scope.kind= .function) (f:env.frame=some L) (m:L∈c.Fs) (nS:L∉c.S) (e:h.get? L=some o) (d:x4 o):QV h c env
def cO(h:Heap)(c:Cx)(l:List Env):Prop:=∀b∈l,QV h c b
def cO.fun:∀{l},cO h c l->h.FunFrames {} l
 :=by
 intro i
 induction i with
 | nil=>
  exact λ ζ=>trivial
 | cons b l g=>
  exact λ x=>(x b (.head _)).casesOn λ L o k f m j e d=>{by rw [k];nofun,{L,o,f,rfl,e,λ n q=>d.elim λ ζ d=>d.elim λ ζ d=>nomatch d.symm.trans q},g λ e m=>x e (.tail _ m)}
variable{l:List Env}
def cO.frames(x:cO h c l):∀b∈l.filterMap (·.frame),b∈c.Fs:=λ b m=>
 (xu.mp m).elim λ g z=>(x g z.1).casesOn λ L o k f m i e d=>ar (f.symm.trans z.2)▸m
def cO.to{c'}(x:cO h c l)(k:∀L o,L∈c.Fs->L∉c.S->h.get? L=some o->L∈c'.Fs/\L∉c'.S/\∃o',h'.get? L=some o'/\(x4 o->x4 o')):cO h' c' l:=λ b q=>
 (x b q).casesOn λ L o g f m j e d=>(k L o m j e).elim λ i z=>z.2.elim λ o' y=> .mk L o' g f i z.1 y.1 (y.2 d)
def cO.step{c'}(x:cO h c l)(s:aN KA c h c' h')(b:∀a∈c.Fs,a∈c'.Fs):cO h' c' l:=x.to λ L o m n e=>{b _ m,s.Fm e n,(s.o7 L o e n m).elim λ d e=>⟨_,e,id⟩}
inductive eS(c:Cx)(h:Heap)(a:Addr):Option Value->Prop
 | no (od:Option Addr) (ws:Array Value) (sl:Array (Option Value)) (e:h.get? a=some {.ref 64,od,.fields ws,sl}) (n:a∉c.H) (f:ws[1]? =some .none):eS c h a none
 | at (v:Value) (od:Option Addr) (ws:Array Value) (sl:Array (Option Value)) (T:Addr) (d:Option Addr) (ts:Array Value) (sl':Array (Option Value)) (e:h.get? a=some {.ref 64,od,.fields ws,sl}) (n:a∉c.H) (f:ws[1]? =some (.ref T)) (nT:T∉c.H) (eT:h.get? T=some {.type "traceback",d,.fields ts,sl'}) (g:ts[3]? =some v):eS c h a (some v)
structure Qt(c:Cx)(h h':Heap):Prop where
 st:aN KA c h c h'
 hs:∀b∈c.S,∀o,h.get? b=some o->h'.get? b=some o
theorem Qt.refl(c)(h):Qt c h h:={.refl c h,λ ζ ζ ζ e=>e}
def Qt.trans{d}(x:Qt c h h')(y:Qt c h' d):Qt c h d:={x.st.trans y.st λ ζ m=>m,λ b m o e=>y.hs b m o (x.hs b m o e)}
theorem Qt.push(o):Qt c h (h.push o):={.push o,λ ζ ζ ζ e=>b9 _ e}
theorem Qt.slots(x:Heap.SlotsOnly F h h')(d:∀b∈F,b∈c.Fs)(g:∀b∈c.S,b∉c.Fs):Qt c h h':={.slots x d,λ b m o e=>(x.2.1 b λ f=>g b m (d b f))▸e}
theorem Qt.fields(f)(e:h.get? a=some o)(j:o.data= .fields ws)(hsz:(f ws).size=ws.size)(i:o.cls= .type "traceback"∨(o.cls= .ref 64/\∃v,(f ws)[1]? =some v/\fS c (h.update a (Obj.mapFields f)) v))(n:a∉c.H)(d:c.ok):
 Qt c h (h.update a (Obj.mapFields f)):={.fields f e j hsz i (d.cF n) n,λ b m k g=>by rw [nA _ _ λ q=>n (by exact q▸d.s b m)];exact g}
section
variable{M:Model}{A:Around}{E:VP}{s:Shared}{c:Cx}{env:Env}{outer:List Env}{L a:Addr}{v:Value}{Q:Unit->Shared->Prop}{od:Option Addr}{ws:Array Value}{sl:Array (Option Value)}
def eS.C9(t:c.ok){f}{T}{d}{j}{b}
 (g:s.heap.get? a=some {.ref 64,od,.fields ws,sl}) (r:a∉c.H) (m:ws[1]? =some (.ref T)) (i:T∉c.H) (e:s.heap.get? T=some {.type "traceback",d,.fields j,b}) (n:j[3]? =some v)
 (k:∀h',Qt c s.heap h'->eS c h' a (some f)->h'.objs.size=s.heap.objs.size->Q () {s with heap:=h'}):wpAny M A (setField (.ref T) 3 f) Q E s:=by
 have p:=(FZ.mp n).1;exact wpAny_setField e rfl p (k _ (Qt.fields _ e rfl (Array.size_setIfInBounds) (.inl rfl) i t) (.at f od ws sl T d _ b ((nA _ _ λ q=>by subst q;cases e.symm.trans g).trans g) r m i (qr _ e rfl) (by simp_all)) (jM ..))
def jS{I}(C:c.ok)(G:∀b∈c.S,b∉c.Fs){p}{g}
 (N:A.frames=some (env::outer)) (T:env.frame=some L) (F:cO s.heap c (env::outer)) (H:eS c s.heap a I) (P:∀b∈c.H,b<s.heap.objs.size)
 (k:∀h',Qt c s.heap h'->eS c h' a (some (rawInt L))->Q () {s with heap:=h'}):
 wpAny M A (do let x ←frameOf env;let y ←entryPlaceOf L g;let b ←EntryCells.newEntry p x .none (rawInt L) .none y;setField (.ref a) 1 b) Q E s:=by
 have t:∀od ws sl,s.heap.get? a=some {.ref 64,od,.fields ws,sl}->a∉c.H->1<ws.size->wpAny M A (do let x ←frameOf env;let y ←entryPlaceOf L g;let b ←EntryCells.newEntry p x .none (rawInt L) .none y;setField (.ref a) 1 b) Q E s:=λ od ws sl S D J=>by
  refine af (wpAny_frameOf_fun N F.fun T λ B j=>af (wpAny_entryPlaceOf λ y u=>af (oZ ?_ (u.sizeOk5 _ _ _ _ _))));have q:=(j.2.1 a λ m=>C.cF D (F.frames _ m)).trans S;have i:=b9 {cls:=.type "traceback",dict:=none,data:=.fields ([p,.ref L,.none,rawInt L,.none]++if y.isEmpty then List.replicate 6 Value.none else y).toArray} q;have z:=Nat.ne_of_gt (fY q);have r:=λ m=>my _ (j.1▸P _ m);refine wpAny_setField i rfl J (k _ (((Qt.slots j F.frames G).trans (Qt.push _)).trans (Qt.fields _ i rfl (Array.size_setIfInBounds) (.inr ⟨rfl,.ref _,by simp_all,.at _ none _ _ {r,C.no r,C.cF r} ((nA _ _ (Ne.symm z)).trans (dW _ rfl)) (by rcases u with rfl | ⟨_,_,_,_,_,_,_,rfl⟩<;>exact Nat.lt_of_sub_eq_succ rfl)⟩) D C)) (.at _ od _ sl B.objs.size none _ _ (qr _ i rfl) D (by simp_all) r ((nA _ _ (Ne.symm z)).trans (dW _ rfl)) (by rcases u with rfl | ⟨_,_,_,_,_,_,_,rfl⟩<;>simp)))
 cases H with
 | no od ws sl e n f=>exact t od ws sl e n (FZ.mp f).1
 | «at» _ od ws sl _ _ _ _ e n f=>exact t od ws sl e n (FZ.mp f).1
variable{fl:Option Value}
def oK(u:c.ok)(g:∀b∈c.S,b∉c.Fs)(C:A.frames=some (env::outer))(p:env.frame=some L)(F:cO s.heap c (env::outer))(z:eS c s.heap a fl)
 (r:fl=none∨fl=some .none∨fl=some (rawInt L)) (D:∀b∈c.H,b<s.heap.objs.size)
 (k:∀h',Qt c s.heap h'->eS c h' a (some (rawInt L))->Q () {s with heap:=h'}):wpAny M A (noteFrame (.ref a) env) Q E s:=by
 unfold noteFrame;rw [p];have e:=z;cases z with
 | no od ws sl j H i=>exact af (ql j rfl i (jS u g C p F e D k))
 | «at» v od ws sl T d P N j H i J G B=>
  refine af (ql j rfl i (af (ql G rfl B ?_)))
  rcases r with q | q | q
  ·cases q
  ·cases q;exact af (eS.C9 u j H i J G B λ h' st I t=>jS u g C p (F.step st.st λ ζ x=>x) I (λ b m=>t▸D b m) λ n y f=>k n (st.trans y) f)
  ·cases q;rw [if_pos (ReflBEq.rfl)];exact aD (k _ (.refl ..) e)
def iQ(q:c.ok){f}(i:eS c s.heap a (some v))
 (k:∀h',Qt c s.heap h'->eS c h' a (some (f.elim .none λ f=>rawInt f))->Q () {s with heap:=h'}):wpAny M A (setFlight (.ref a) f) Q E s:=by
 cases i with
 | «at» _ od ws sl T d t r g p b n m j=>exact af (ql g rfl b (eS.C9 q g p b n m j λ h' st e ζ=>k h' st e))
def qL(m:c.ok)(i:∀b∈c.S,b∉c.Fs)(p:A.frames=some (env::outer))(r:env.frame=some L)(F:cO s.heap c (env::outer))(n:eS c s.heap a fl)
 (g:fl=none∨fl=some .none∨fl=some (rawInt L)) (q:∀b∈c.H,b<s.heap.objs.size)
 (k:∀h',Qt c s.heap h'->eS c h' a (some .none)->Q () {s with heap:=h'}):wpAny M A (leaving env (.ref a)) Q E s:=af (oK m i p r F n g q λ h' st e=>iQ m e λ f j d=>k f (st.trans j) d)
def Cd(j:c.ok)(i:env.frame=some L)(e:eS c s.heap a (some v))
 (k:∀h',Qt c s.heap h'->eS c h' a (some (rawInt L))->E (.ref a) {s with heap:=h'}):cameBackBy M A env E (.ref a) s:=by
 have b:=e;cases e with
 | «at» _ od ws sl T d t m g r f q p n=>exact af (ql g rfl f (i▸iQ j b k))
end
end
section
def n4(P:Params)(c:Cx)(h:Heap)(a d e:Addr)(f:List Str)(vs:List V):Prop:=(e=322∨e=606)/\a≠d/\h.get? a=some {.ref e,some d,.plain,#[]}/\∃b,DictAt P h d f b/\aj KA P c.ν c.H h vs b
def n5(P:Params)(c:Cx)(h:Heap)(a d:Addr)(ks:List Str)(vs:List V):Prop:=a=d/\∃b,DictAt P h a ks b/\aj KA P c.ν c.H h vs b
noncomputable def aS(P:Params)(c:Cx)(h:Heap)(a d:Addr):O->Prop
 | .inst p q l=>n4 P c h a d p q l
 | .dict o l=>n5 P c h a d o l
 | .list l=>a=d/\∃i,SeqAt h a "list" i/\aj KA P c.ν c.H h l i
 | .known none=>a=d/\cE P h a none
 | .known (some (o,v))=>a=d/\∃k m f,k∉c.H/\cE P h a (some (o,k,m))/\SeqAt h k "tuple" f/\StrsAre o f/\Rep KA P c.ν c.H h v m
 | .zip b e n j g=>(e.drop n=j/\e.length<=100000)/\cond b (n4 P c h a d 322 zN (.lst e:: .int n::g)) (n5 P c h a d zD [.lst e,.int n])
set_option tactic.hygienic true in
def aS.ins{P}{c}{h}{a d}{o}{p}(r:aS P c h a d o)(e:o.qx =some p):n4 P c h a d p.1 p.2.1 p.2.2:=by
 cases o<;>first | (contradiction) | (cases e;exact r) | skip
 rename_i b _ _ _ _;cases b<;>cases e;exact r.2
set_option tactic.hygienic true in
def aS.QP{P}{c}{h}{a d}{o}{p}(r:aS P c h a d o)(e:o.tN =some p):n5 P c h a d p.1 p.2:=by
 cases o<;>first | (contradiction) | (cases e;exact r) | skip
 rename_i b _ _ _ _;cases b<;>cases e;exact r.2
def Cx.On(c:Cx)(i:Nat)(x:Addr):Prop:=c.ν[i]? =some x∨c.μ[i]? =some x
structure Gd(Kf:Frag)(P:Params)(σ:St)(c:Cx)(h:Heap):Prop where
 ok:c.ok
 bC:Kf.In h
 gS:∀a∈c.H,Kf.lookup a=none
 low:∀a∈c.H,∃o,h.get? a=some o
 ln:c.ν.length=σ.length
 lm:c.μ.length=σ.length
 cF:∀a∈c.S,a∉c.Fs
 obj:∀(i:Nat) (o:O) (a d:Addr),σ[i]? =some o->c.ν[i]? =some a->c.μ[i]? =some d->aS P c h a d o
 apart:∀(i j:Nat) (x y:Addr),i≠j->c.On i x->c.On j y->x≠y
def aS.vl{P}{c}{h}{a d}{o}(r:aS P c h a d o):o.val:=by
 cases o<;>first | exact trivial | exact r.1
def Gd.vals{P}{σ}{c}{h}(g:Gd Kf P σ c h):∀o∈σ,o.val:=λ o m=>(u6.mp m).elim λ i a=>(g.obj i o _ _ (by rw [cQ a.1,a.2]) (cQ (by rw [g.ln];exact a.1)) (cQ (by rw [g.lm];exact a.1))).vl
structure bc(Kf:Frag)(P:Params)(c:Cx)(s:Shared)(σ':St)(c':Cx)(s':Shared):Prop where
 good:Gd Kf P σ' c' s'.heap
 st:aN KA c s.heap c' s'.heap
 fs:c'.Fs=c.Fs
 gens:s'.gens=s.gens
 os:s'.os=s.os
def Gd.lt{P}{σ}{c}{h}(g:Gd Kf P σ c h):∀b∈c.H,b<h.objs.size:=λ b m=>(g.low b m).elim λ ζ a=>fY a
def bc.trans{P}{c d e}{s s₁ f}{g b}(x:bc Kf P c s g d s₁)(y:bc Kf P d s₁ b e f):bc Kf P c s b e f:=
 {y.good,x.st.trans y.st λ a m=>x.fs▸m,y.fs.trans x.fs,y.gens.trans x.gens,y.os.trans x.os}
def aS.tr{P}{c c'}{h f}(x:Tr KA c.ν c.H h c'.ν c'.H f){a d}{o}(g:∀x,h.get? a=some x->f.get? a=some x)(F:∀x,h.get? d=some x->f.get? d=some x)(r:aS P c h a d o):aS P c' f a d o:=by
 have v:∀{k t e},n4 P c h a d k t e->n4 P c' f a d k t e:=λ z=>{z.1,z.2.1,g _ z.2.2.1,z.2.2.2.imp λ i z=>{z.1.imp λ B z=>z.imp λ n z=>{F _ z.1,z.2},x.bN z.2}};have u:∀{p e},n5 P c h a d p e->n5 P c' f a d p e:=λ z=>{z.1,z.2.imp λ i z=>{z.1.imp λ B z=>z.imp λ n z=>{g _ z.1,z.2},x.bN z.2}};cases o with
 | inst k t e=>exact v r
 | dict p e=>exact u r
 | zip b=>exact {r.1,by cases b;exact u r.2;exact v r.2}
 | list e=>exact {r.1,r.2.imp λ i z=>{z.1.imp λ n z=>g _ z,x.bN z.2}}
 | known q=>
  cases q with
  | none=>exact r.elim λ l q=>q.elim λ n j=>{l,n,g _ j.1,j.2}
  | some q=>
   obtain ⟨l,G,m,s,y,⟨n,C,z⟩,A,D,E⟩:=r;exact {l,G,m,s,(x.seq y A).1,{n,g _ C,z},(x.seq y A).2,D,x.rep E}
def aS.step{P}{c c'}{h b}(g:c.ok)(st:aN KA c h c' b){a d}{o}(e:∀x,h.get? a=some x->b.get? a=some x)(f:∀x,h.get? d=some x->b.get? d=some x)(r:aS P c h a d o):aS P c' b a d o:=r.tr (st.tr g) e f
def Gd.keeps{P}{σ}{c}{h f}(g:Gd Kf P σ c h)(k:∀b o,h.get? b=some o->f.get? b=some o):Gd Kf P σ c f:=
 {g.ok,g.bC.keeps k,g.gS,λ a m=>(g.low a m).elim λ o e=>{o,k _ _ e},g.ln,g.lm,g.cF,λ i o a d j l n=>(g.obj i o a d j l n).step g.ok (.of_keeps k) (k _) (k _),g.apart}
def bc.pure{P}{σ}{c}{s s'}(g:Gd Kf P σ c s.heap)(k:∀b o,s.heap.get? b=some o->s'.heap.get? b=some o)(a:s'.gens=s.gens)(d:s'.os=s.os):
 bc Kf P c s σ c s':={g.keeps k,.of_keeps k,rfl,a,d}
def bc.refl{P}{σ}{c}{s}(g:Gd Kf P σ c s.heap):bc Kf P c s σ c s:=.pure g (λ ζ ζ e=>e) rfl rfl
theorem bc.toks{P}{σ}{c}{s}{t}(g:Gd Kf P σ c s.heap):bc Kf P c s σ c {s with toks:=t}:=.pure g (λ ζ ζ e=>e) rfl rfl
def Gd.Tt{P}{σ}{c}{h}(g:Gd Kf P σ c h){b}(m:b∈c.S):∃(i:Nat) (a d:Addr),c.ν[i]? =some a/\c.μ[i]? =some d/\(b=a∨b=d):=by
 refine (e6.mp m).elim (λ m=> ?_) λ m=> ?_
 ·obtain ⟨i,f,e⟩:=u6.mp m;have j:i<c.μ.length:=by rw [g.lm,←g.ln];exact f
  exact {i,b,c.μ[i],by rw [cQ f,e],cQ j,.inl rfl}
 ·obtain ⟨i,f,e⟩:=u6.mp m;have j:i<c.ν.length:=by rw [g.ln,←g.lm];exact f
  exact {i,c.ν[i],b,cQ j,by rw [cQ f,e],.inr rfl}
variable{c:Cx}{i:Nat}
def Cx.memν{a}(e:c.ν[i]? =some a):a∈c.S:=sI _ (Bs e)
def Cx.memμ{a}(e:c.μ[i]? =some a):a∈c.S:=sJ _ (Bs e)
def Gd.soft{P}{σ}{c}{h f}(g:Gd Kf P σ c h)(st:aN KA c h c f)(q:Kf.In f)(n:∀b∈c.S,f.get? b=h.get? b):Gd Kf P σ c f:=
 {g.ok,q,g.gS,λ a m=>(g.low a m).elim λ o j=>st.there a o j,g.ln,g.lm,g.cF,λ i o a d p k l=>(g.obj i o a d p k l).step g.ok st (λ x e=>(n _ (Cx.memν k)).trans e) λ x e=>(n _ (Cx.memμ l)).trans e,g.apart}
structure jR(Kf:Frag):Prop where
 soft:∀b o,Kf.lookup b=some o->(∃ws,o.data= .fields ws)->o.cls≠.type "traceback"/\o.cls≠.ref 64
def Gd.quiet{P}{σ}{c}{h j}(p:jR Kf)(g:Gd Kf P σ c h)(q:Qt c h j):Gd Kf P σ c j:=by
 refine {g.ok,λ b o e=> ?_,g.gS,λ a m=>(g.low a m).elim λ o f=>q.st.there a o f,g.ln,g.lm,g.cF,λ i o a d t k l=>(g.obj i o a d t k l).step g.ok q.st (λ x e=>q.hs a (Cx.memν k) x e) λ x e=>q.hs d (Cx.memμ l) x e,g.apart};have n:b∉c.H:=λ m=>by rw [g.gS b m] at e;contradiction
 exact (q.st.keep b o (g.bC b o e) (g.ok.no n) (g.ok.cF n)).elim λ v z=>(z.2.s.casesOn rfl λ r A ζ h ζ u=>(u.elim (p.soft b o e ⟨r,h⟩).1 λ y=>(p.soft b o e ⟨r,h⟩).2 y.1).elim:v=o)▸z.1
def Gd.upd{P}{σ}{c}{h k}(g:Gd Kf P σ c h){i}{a d}{o'}(hi:i<σ.length)(t:c.ν[i]? =some a)(u:c.μ[i]? =some d)
 (f:∀b,b≠a->b≠d->k.get? b=h.get? b) (E:∃o,k.get? a=some o) (F:∃o,k.get? d=some o) (r:aN KA c h c k->aS P c k a d o'):Gd Kf P (σ.set i o') c k/\aN KA c h c k:=by
 have C:∀b∈c.Fs,b≠a/\b≠d:=λ b m=>{λ q=>g.cF a (Cx.memν t) (q▸m),λ q=>g.cF d (Cx.memμ u) (q▸m)}
 have st:aN KA c h c k:=by
  refine {λ b o e n ζ=>{o,?_,.refl o},λ b o e n m=>{o.slots,?_},λ b o e=> ?_,λ ζ x=> .inl x,λ ζ x=> .inl x,λ ζ x=> .inl x,λ ζ x=>x,λ ζ ζ e=>e,λ ζ ζ e=>e}
  ·rw [f b (λ q=>n (q▸Cx.memν t)) λ q=>n (q▸Cx.memμ u)];exact e
  ·rw [f b (C b m).1 (C b m).2];exact e
  ·by_cases q:b=a
   ·simp_all
   ·by_cases D:b=d
    ·simp_all
    ·exact {o,by rw [f b q D];exact e}
 refine {{g.ok,λ b o e=> ?_,g.gS,λ b m=> ?_,by simp [sD];exact g.ln,by simp [sD];exact g.lm,g.cF,λ j o v A l p s=> ?_,g.apart},st}
 ·rw [f b (λ q=> ?_) λ q=> ?_]
  ·exact g.bC b o e
  ·rw [q,g.gS a (g.ok.s _ (Cx.memν t))] at e;contradiction
  ·rw [q,g.gS d (g.ok.s _ (Cx.memμ u))] at e;contradiction
 ·exact (g.low b m).elim λ o e=>st.there b o e
 ·by_cases q:i=j
  ·subst q;rw [qs hi] at l;injection l with l;subst l
   rw [t] at p;injection p with p;subst p
   rw [u] at s;injection s with s;subst s
   exact r st
  ·rw [ny q] at l;have z:=λ y B=>f y (Ne.symm (g.apart i j a y q (.inl t) B)) (Ne.symm (g.apart i j d y q (.inr u) B));exact (g.obj j o v A l p s).step g.ok st (λ x e=>(z v (.inl p)).trans e) λ x e=>(z A (.inr s)).trans e
noncomputable def Cx.adopt(c:Cx)(a d:Addr):Cx:={c.ν++ [a],c.μ++ [d],c.Fs,c.H}
def Cx.tW{a d b}:b∈(c.adopt a d).S↔b∈c.S∨b=a∨b=d:=by
 simp only [Cx.adopt,Cx.S,e6,cu]
 constructor
 ·rintro ((h | h) | (h | h))
  ·exact .inl (.inl h)
  ·exact .inr (.inl h)
  ·exact .inl (.inr h)
  ·exact .inr (.inr h)
 ·rintro ((h | h) | (h | h))
  ·exact .inl (.inl h)
  ·exact .inr (.inl h)
  ·exact .inl (.inr h)
  ·exact .inr (.inr h)
def eQ{a:Type}{l}{x y:a}{i}(e:(l++ [x])[i]? =some y):l[i]? =some y∨(i=l.length/\y=x):=by
 rcases Nat.lt_or_ge i _ with h | h
 ·exact .inl (By h▸e)
 ·rw [List.getElem?_append_right h] at e;rw [List.getElem?_singleton] at e;by_cases q:i-l.length=0
  ·rw [if_pos q] at e;exact .inr {Bb (Nat.sub_eq_zero_iff_le.mp q) h,(ar e).symm}
  ·rw [if_neg q] at e;exact aQ e
end
def SeqAt.isList{h}{a}{mvs}(x:SeqAt h a "list" mvs):h.IsList a mvs.toArray:=x.elim λ n b=>⟨_,b,rfl,n,rfl⟩
def SeqAt.dG{h}{a}{mvs}(x:SeqAt h a "tuple" mvs):h.IsTuple a mvs.toArray:=x.elim λ n b=>⟨_,b,rfl,n,rfl⟩
def SeqAt.isTup{h}{a}{mvs}(x:SeqAt h a "tuple" mvs):IsTup h a mvs.toArray:=x.elim λ n b=>⟨_,b,rfl,n,rfl⟩
def SeqAt.unique{h}{a}{T d}{m g}(x:SeqAt h a T m)(y:SeqAt h a d g):T=d/\m=g:=by
 refine x.elim λ n e=>y.elim λ j f=> ?_;rw [e] at f;injection ar f with b i c
 injection b with b
 injection c with c
 exact {b,List.toArray_inj c}
def aj.get{P}{ν H}{h}:∀{vs} {mvs} {j:Nat} {v},aj KA P ν H h vs mvs->vs[j]? =some v->∃m,mvs[j]? =some m/\Rep KA P ν H h v m:=by
 intro vs
 induction vs with
 | nil=>exact λ {_ _ _} _ e=>aQ e
 | cons a vs b=>
  exact λ {mvs j v} r e=>r.elim λ m r=>r.elim λ c r=>r.1▸by
   cases j with
   | zero=>exact {m,rfl,ar e▸r.2.1}
   | succ j=>have z:=b r.2.2 e;exact z
def N5{A:Around}{n}(h:A.units+(n+1)<cLine):A.in1.units+n<cLine:=by
 rw [(kU A.units n:A.in1.units+n=A.units+(n+1))];exact h
def QO{c:Type}{a b}(C:c->Prop)(h:a=b)(g:C b):C a:=h▸g
def tM{f}{a b}{r}(C:V->V->Bool->Prop)(h:eqB f a b=some r)(m:C .none .none true)(n:∀s,C .none (.str s) false)(d:∀x y,C (.bool x) (.bool y) (x==y))(i:∀x y,C (.int x) (.int y) (x==y))(o:∀x y,C (.str x) (.str y) (x==y))
 (t:∀x y g r,f=some g->mD g x y=some r->C (.tup x) (.tup y) r) (q:∀x s,C (.tup x) (.str s) false) (p:∀x s,C (.tup x) (.int s) false)
 (j:∀x y g r,x.length=y.length->f=some g->mD g x y=some r->C (.lst x) (.lst y) r) (l:∀x y,x.length≠y.length->C (.lst x) (.lst y) false) (k:∀x s,C (.lst x) (.str s) false):C a b r:=by
 refine aO h (λ h=>ab h λ ζ e h=>QO (λ a=>C a b r) (V.AI e) (aO h (λ h=>ab h λ ζ e h=>QO (λ b=>C _ b r) (V.AI e) (ar h▸m)) λ h=>ab h λ s e h=>V.jW e▸ar h▸n s)) λ h=>aO h (λ h=>ab h λ x e h=>V.o_ e▸ab h λ y e h=>V.o_ e▸ar h▸d x y) λ h=>aO h (λ h=>ab h λ x e h=>V.o6 e▸ab h λ y e h=>V.o6 e▸ar h▸i x y) λ h=>aO h (λ h=>ab h λ x e h=>V.jW e▸ab h λ y e h=>V.jW e▸ar h▸o x y) λ h=>aO h (λ h=>ab h λ x e h=>V.rX e▸aO h (λ h=>ab h λ y e h=>V.rX e▸ab h λ g e h=>t x y g r e h) λ h=>aO h (λ h=>ab h λ y e h=>V.jW e▸ar h▸q x y) λ h=>ab h λ y e h=>V.o6 e▸ar h▸p x y) λ h=>ab h λ x e h=>V.oV e▸aO h (λ h=>ab h λ y e h=>V.oV e▸?_) λ h=>ab h λ y e h=>V.jW e▸ar h▸k x y;by_cases c:x.length=y.length
 ·rw [if_pos c] at h;exact ab h λ g e h=>j x y g r c e h
 ·rw [if_neg c] at h;exact ar h▸l x y c
def ox(g:V->V->Option Bool)(c d:List V)(j:Nat):Bool:=(ae c[j]? λ a=>ae d[j]? λ b=>g a b).getD false
theorem xF(g):∀(a c) (b),mD g a c=some b->((List.range (min a.length c.length)).all (ox g a c) && a.length==c.length)=b
 | [],[],b,e=>ar e
 | [],_::_,b,e=>by cases e;simp
 | _::_,[],b,e=>by cases e;simp
 | x::a,y::c,b,e=>ab e λ p d e=>ab e λ q f e=>by
  simp only [←ar e,←xF g a c q f];simp only [dx,Nat.succ_min_succ,List.range_succ_eq_map,sy,List.all_map];rw [(by simp:(a.length+1==c.length+1)=(a.length==c.length)),(by show (g x y).getD _=p;rw [d];rfl:ox g _ _ 0=p),Bool.and_assoc];rfl
section
variable{P:Params}{ν H:List Addr}
def vv{h}{g}(j:∀v w b m,g v w=some b->Rep KA P ν H h v m->Rep KA P ν H h w m->b=true):∀(vs a) (b) (ms),mD g vs a=some b->aj KA P ν H h vs ms->aj KA P ν H h a ms->b=true:=by
 intro vs
 induction vs with
 | nil=>
  intro a;cases a with
  | nil=>exact λ b ms e r q=>ar e.symm
  | cons w a=>exact λ b ms e r q=>q.elim λ m q=>q.elim λ l q=>absurd (q.1.symm.trans r) (List.cons_ne_nil _ _)
 | cons v vs c=>
  intro a;cases a with
  | nil=>exact λ b ms e r q=>r.elim λ m r=>r.elim λ l r=>absurd (r.1.symm.trans q) (List.cons_ne_nil _ _)
  | cons w a=>
   exact λ b ms e r q=>r.elim λ m r=>r.elim λ l r=>q.elim λ n q=>q.elim λ k q=>ab e λ x d e=>ab e λ y f e=>by
    have i:=List.cons.inj (r.1.symm.trans q.1);exact (ar e).symm.trans ((congr (congrArg and (j v w x m d r.2.1 (i.1▸q.2.1))) (c a y l f r.2.2 (i.2▸q.2.2))))
def wC{h}{f}(A:∀g,f=some g->∀v w b m,g v w=some b->Rep KA P ν H h v m->Rep KA P ν H h w m->b=true)(v w)(b)(m)(e:eqB f v w=some b):Rep KA P ν H h v m->Rep KA P ν H h w m->b=true:=by
 refine tM (λ v w b=>Rep KA P ν H h v m->Rep KA P ν H h w m->b=true) e (λ ζ ζ=>rfl) ?_ ?_ ?_ ?_ ?_ ?_ ?_ ?_ ?_ ?_
 ·exact λ s r ⟨t,q⟩=>by cases r.symm.trans q
 ·exact λ x y r q=>by cases r.symm.trans q;exact ff x
 ·exact λ x y ⟨t,r⟩ ⟨u,q⟩=>by lia
 ·exact λ x y ⟨t,r⟩ ⟨u,q⟩=>by lia
 ·intro x y g r p e ⟨a,o,c,_,l,j⟩ ⟨z,i,d,_,n,k⟩;cases c.symm.trans d;exact vv (A g p) x y r o e j ((l.unique n).2▸k)
 ·exact λ x s ⟨_,_,r,_⟩ ⟨t,q⟩=>by cases r.symm.trans q
 ·exact λ x s ⟨_,_,r,_⟩ ⟨t,q⟩=>by lia
 ·intro x y g r _ p e ⟨a,o,c,_,l,j⟩ ⟨z,i,d,_,n,k⟩;cases c.symm.trans d;exact vv (A g p) x y r o e j ((l.unique n).2▸k)
 ·intro x y B ⟨a,o,c,_,l,j⟩ ⟨z,i,d,_,n,k⟩;cases c.symm.trans d;exact absurd (j.length.symm.trans ((l.unique n).2▸k.length)) B
 ·exact λ x s ⟨_,_,r,_⟩ ⟨t,q⟩=>by cases r.symm.trans q
def vt{h}:∀(n) (v w) (b) (m),la n v w=some b->Rep KA P ν H h v m->Rep KA P ν H h w m->b=true
 :=by
 intro c
 induction c with
 | zero=>
  exact wC nofun
 | succ n a=>
  exact wC λ g e=>by cases e;exact a
def EA(P:Params)(ν H:List Addr)(s:Shared)(n:Nat)(g:V->V->Option Bool):Prop:=∀(A:Around) (v w:V) (b:Bool) (m a:Value),A.units+n<cLine->g v w=some b->Rep KA P ν H s.heap v m->Rep KA P ν H s.heap w a->EqAt A s m a b
def Mk{s}{n}{g}(p:EA P ν H s n g):∀(A) (vs c) (ms a),A.units+n<cLine->∀b,mD g vs c=some b->aj KA P ν H s.heap vs ms->aj KA P ν H s.heap c a->
 ∀j (d) (f:j<a.length),EqAt A s ms[j] a[j] (ox g vs c j):=by
 intro A vs
 induction vs with
 | nil=>exact λ c ms a h b e r q j d f=>absurd d (by rw [r];exact gV _)
 | cons v vs i=>
  intro c;cases c with
  | nil=>exact λ ms a h b e r q j d f=>absurd f (by rw [q];exact gV _)
  | cons w c=>
   exact λ ms a h b e r q=>r.elim λ m r=>r.elim λ l r=>q.elim λ u q=>q.elim λ t q=>ab e λ x k e=>ab e λ y o e=>by
    rw [r.1,q.1];intro j;cases j with
    | zero=>exact λ d f=>(by show (g v w).getD _=x;rw [k];rfl:ox g (v::vs) (w::c) 0=x)▸p A v w x m u h k r.2.1 q.2.1
    | succ j=>exact λ d f=>i c l t h y o r.2.2 q.2.2 j _ _
variable{s:Shared}{n:Nat}{f:Option (V->V->Option Bool)}{A:Around}
def gi{g}(k:EA P ν H s n g){x y}{ms a}{b}(i:A.units+(n+1)<cLine)(e:mD g x y=some b)(r1:aj KA P ν H s.heap x ms)(h:aj KA P ν H s.heap y a):
 (∀j (c) (d:j<a.toArray.size),EqAt A.in1 s ms.toArray[j] a.toArray[j] (ox g x y j))/\((List.range (min ms.toArray.size a.toArray.size)).all (ox g x y) && ms.toArray.size==a.toArray.size)=b:=
 {λ j c d=>Mk k _ x y ms a (N5 i) b e r1 h j c d,by simp [r1.length,h.length];exact xF g x y b e}
def GA(P:Params)(ν H:List Addr)(s:Shared)(n:Nat)(f:Option (V->V->Option Bool)):Prop:=∀g,f=some g->∃k,n=k+1/\EA P ν H s k g
def yx(I:GA P ν H s n f){v w:V}{b:Bool}{m B:Value}(o:A.units+n<cLine)(e:eqB f v w=some b):Rep KA P ν H s.heap v m->Rep KA P ν H s.heap w B->RcAt A s m B b:=by
 have c:=fZ (ed _ _) o;refine tM (λ v w b=>Rep KA P ν H _ v m->Rep KA P ν H _ w B->RcAt A s m B b) e ?_ ?_ ?_ ?_ ?_ ?_ ?_ ?_ ?_ ?_ ?_
 ·intro r q;cases r;cases q;exact .none_none
 ·intro x r ⟨u,q⟩;cases r;cases q;exact RcAt.none_str _ _
 ·intro x y r q;cases r;cases q;exact .bool_bool _ _
 ·intro x y ⟨t,r⟩ ⟨u,q⟩;cases r;cases q;exact .int_int _ _ _ _
 ·intro x y ⟨t,r⟩ ⟨u,q⟩;cases r;cases q;exact .str_str _ _ _ _
 ·intro x y g b C e ⟨a,F,r,_,d,i⟩ ⟨G,h,q,_,l,j⟩;obtain ⟨k,rfl,p⟩:=I g C;cases r;cases q;exact (gi p o e i j).2▸RcAt.tuples d.dG l.dG c (gi p o e i j).1
 ·intro x y ⟨_,_,r,_,d,_⟩ ⟨u,q⟩;cases r;cases q;exact RcAt.tuple_str _ _ d.dG c
 ·intro x y ⟨_,_,r,_,d,_⟩ ⟨u,q⟩;cases r;cases q;exact RcAt.tuple_int _ _ d.dG c
 ·intro x y g b D C e ⟨a,F,r,_,d,i⟩ ⟨G,h,q,_,l,j⟩;obtain ⟨k,rfl,p⟩:=I g C;cases r;cases q;have z:=gi p o e i j;have E:F.toArray.size=h.toArray.size:=by rw [e7,e7,i.length,j.length,D]
  have J:=z.2;rw [E,uY,ff,nc,←E] at J;exact J▸RcAt.lists (A:=A) d.isList l.isList E c z.1
 ·intro x y D ⟨a,F,r,_,d,i⟩ ⟨G,h,q,_,l,j⟩;cases r;cases q;exact RcAt.lists_lengths d.isList l.isList (by simp [i.length,j.length,D]) c
 ·intro x y ⟨_,_,r,_,d,_⟩ ⟨u,q⟩;cases r;cases q;exact RcAt.list_str _ _ d.isList c
def F_(B:GA P ν H s n f)(E:∀v w b m,eqB f v w=some b->Rep KA P ν H s.heap v m->Rep KA P ν H s.heap w m->b=true):EA P ν H s n (eqB f):=λ A v w b m k o e r q=>by
 by_cases h:m=k
 ·subst h;exact E v w b m e r q▸EqAt.same m
 have d:=yx B o e r q;have c:=fZ (ed _ _) o
 revert r q d
 exact tM (λ v w b=>Rep KA P ν H _ v m->Rep KA P ν H _ w k->RcAt A s m k b->EqAt A s m k b) e (by intro r q;subst r;subst q;exact absurd rfl h) (by intro x r ⟨u,q⟩ _;subst r;subst q;exact EqAt.none_str _ _) (by intro x y r q _;subst r;subst q;exact .bool_bool _ _) (by intro x y ⟨t,r⟩ ⟨u,q⟩ _;subst r;subst q;exact .int_int _ _ _ _) (by intro x y ⟨t,r⟩ ⟨u,q⟩ _;subst r;subst q;exact .str_str _ _ _ _) (by intro x y g b C e ⟨a,p,r,_⟩ ⟨l,i,q,_⟩ d;subst r;subst q;exact .of_refs (λ z=>h (by rw [z])) d) (by intro x y ⟨_,_,r,_,j,_⟩ ⟨u,q⟩ _;cases r;cases q;exact EqAt.tuple_str _ _ j.dG c) (by intro x y ⟨_,_,r,_,j,_⟩ ⟨u,q⟩ _;cases r;subst q;exact EqAt.tuple_int _ _ j.dG c) (by intro x y g b D C e ⟨a,p,r,_⟩ ⟨l,i,q,_⟩ d;cases r;subst q;exact .of_refs (λ z=>h (by rw [z])) d) (by intro x y D ⟨a,p,r,_⟩ ⟨l,i,q,_⟩ d;cases r;cases q;exact .of_refs (λ z=>h (by rw [z])) d) (by intro x y ⟨_,_,r,_,j,_⟩ ⟨u,q⟩ _;cases r;subst q;exact EqAt.list_str _ _ j.isList c)
def Ga:∀n,EA P ν H s n (la n)
 :=by
 intro a
 induction a with
 | zero=>
  exact F_ λ g e=>by contradiction (vt 0)
 | succ n b=>
  exact F_ λ g e=>by simp_all (vt (n+1))
def Qd:∀n {A} {v w} {b} {m c},A.units+n<cLine->la n v w=some b->Rep KA P ν H s.heap v m->Rep KA P ν H s.heap w c->RcAt A s m c b
 :=by
 intro d
 induction d with
 | zero=>
  intro _ _ _ _ _ _ a e r q;exact yx λ g e=>by contradiction a e r q
 | succ n h=>
  intro _ _ _ _ _ _ a e r q;exact yx (λ g e=>by cases e;exact {n,rfl,Ga n}) a e r q
end
section
structure PK(s s':Shared):Prop where
 keep:∀(b:Addr) (o:Obj),s.heap.get? b=some o->s'.heap.get? b=some o
 gens:s'.gens=s.gens
 os:s'.os=s.os
def PK.refl(s:Shared):PK s s:={λ ζ ζ e=>e,rfl,rfl}
theorem PK.toks(s:Shared)(t:Nat):PK s {s with toks:=t}:=⟨λ ζ ζ e=>e,rfl,rfl⟩
def PK.trans{a b c:Shared}(x:PK a b)(y:PK b c):PK a c:={λ b o e=>y.keep _ _ (x.keep _ _ e),y.gens.trans x.gens,y.os.trans x.os}
def PK.push(s:Shared)(o:Obj)(t:Nat):PK s {s with heap:=s.heap.push o,toks:=t}:=⟨λ ζ ζ e=>b9 _ e,rfl,rfl⟩
variable{s:Shared}{h:Heap}
def PK.of{t:Nat}(k:∀b o,s.heap.get? b=some o->h.get? b=some o):PK s {s with heap:=h,toks:=t}:=⟨k,rfl,rfl⟩
variable{P:Params}{σ:St}{c:Cx}{s':Shared}
def PK.post(k:PK s s')(g:Gd Kf P σ c s.heap):bc Kf P c s σ c s':=.pure g k.keep k.gens k.os
variable{v:V}
def PK.rep(k:PK s s')(a:c.ok){m:Value}(r:Rep KA P c.ν c.H s.heap v m):Rep KA P c.ν c.H s'.heap v m:=Rep.step a (.of_keeps k.keep) _ _ r
def PK.bN(k:PK s s')(a:c.ok){v:List V}{m:List Value}(r:aj KA P c.ν c.H s.heap v m):aj KA P c.ν c.H s'.heap v m:=aj.step a (.of_keeps k.keep) _ _ r
inductive At(env:Env)(c:Cx)(h:Heap)(m:Str->Option Value)(x:Str)(mv:Value):Prop
 | loc (k:env.kindOf x=some .local) (e:m x=some mv)
 | cell (k:env.kindOf x=some .cell∨(env.kindOf x=some .free/\(x== "__classdict__")=false)) (cc:Addr) (l:env.cells.lookup x=some cc) (o:h.IsCell cc (some mv)) (nS:cc∉c.S) (nF:cc∉c.Fs)
inductive bA(P:Params)(a:Addr)(c:Cx)(h:Heap):V->Value->Prop
 | lst (vs:List V) (mvs:List Value) (b:a∈c.H/\a∉c.S/\a∉c.Fs) (s:SeqAt h a "list" mvs) (r:aj KA P c.ν c.H h vs mvs):bA P a c h (.lst vs) (.ref a)
 | bH (ks:List Str) (vs:List V) (mvs:List Value) (b:a∈c.H/\a∉c.S/\a∉c.Fs) (s:DictAt P h a ks mvs) (r:aj KA P c.ν c.H h vs mvs):bA P a c h (.bH ks vs) (.ref a)
def Vr(P:Params)(b:Addr)(c:Cx)(h:Heap)(d:Option Nat)(i:Nat)(v:V)(a:Value):Prop:=if d=some i then bA P b c h v a else Rep KA P c.ν c.H h v a
inductive Nm(P:Params)(env:Env)(ow:Option Nat)(oa:Addr)(c:Cx)(h:Heap)(m:Str->Option Value)(x:Str)(i:Nat)(v:V):Prop
 | mk (mv:Value) (a:At env c h m x mv) (r:Vr P oa c h ow i v mv):Nm P env ow oa c h m x i v
inductive NB(P:Params)(env:Env)(Γ:List (Str×Nat))(ow:Option Nat)(oa:Addr)(ρ:En)(c:Cx)(h:Heap):Prop
 | mk (m:Str->Option Value) (n:h.Ns env.locals m) (k:∀x i v,Γ.lookup x=some i->ay ρ i=some v->Nm P env ow oa c h m x i v):NB P env Γ ow oa ρ c h
structure ER(P:Params)(env:Env)(κ:List (Str×NameKind))(Γ:List (Str×Nat))(ow:Option Nat)(oa:Addr)(ρ:En)(c:Cx)(h:Heap):Prop where
 fk:env.scope.kind= .function
 kn:env.scope.names=κ
 gl:env.globals=mainGlobals
 bl:env.builtins=builtinsNs
 cx:∀x,env.kindOf x=some .cell->∃cc o,env.cells.lookup x=some cc/\h.get? cc=some o
 nl:env.locals∉c.S
 ns:NB P env Γ ow oa ρ c h
variable{c':Cx}{h':Heap}{a:Addr}{m m':Str->Option Value}
def Gy(o:Obj):Prop:=∀b,o.data≠.fields b
def At.to{env:Env}{x d}(z:At env c h m x d)(i:m x=some d->m' x=some d)(g:∀b o,env.cells.lookup x=some b->h.get? b=some o->Gy o->b∉c.S->b∉c.Fs->h'.get? b=some o/\b∉c'.S/\b∉c'.Fs):At env c' h' m' x d:=
 z.casesOn (λ k e=> .loc k (i e)) λ k b l o n j=>o.elim λ f q=>have z:=g b f l q.1 (λ ζ w=>nomatch q.2.symm.trans w) n j;.cell k b l ⟨f,z.1,q.2⟩ z.2.1 z.2.2
def bA.to{g}(z:bA P a c h v g)(i:Tr KA c.ν c.H h c'.ν c'.H h')(k:∀o,h.get? a=some o->Gy o->a∈c.H/\a∉c.S/\a∉c.Fs->h'.get? a=some o/\a∈c'.H/\a∉c'.S/\a∉c'.Fs):bA P a c' h' v g:=by
 cases z with
 | lst f d b s r=>exact s.elim λ n e=>have z:=k _ e nofun b;.lst f d z.2 ⟨n,z.1⟩ (i.bN r)
 | bH l f d b s r=>exact s.elim λ j s=>s.elim λ n e=>have z:=k _ e.1 nofun b;.bH l f d z.2 ⟨j,n,z.1,e.2⟩ (i.bN r)
def bA.hs{d}(z:bA P a c h v d):a∈c.H/\a∉c.S/\a∉c.Fs:=z.casesOn (λ ζ ζ b ζ ζ=>b) λ ζ ζ ζ b ζ ζ=>b
def bA.rf{b}(z:bA P a c h v b):b= .ref a:=z.casesOn (λ ζ ζ ζ ζ ζ=>rfl) λ ζ ζ ζ ζ ζ ζ=>rfl
section
variable{ow:Option Nat}{i:Nat}{mv:Value}
def Vr.own(z:Vr P a c h ow i v mv)(b:ow=some i):bA P a c h v mv:=(if_pos b).mp z
def Vr.rep(z:Vr P a c h ow i v mv)(b:ow≠some i):Rep KA P c.ν c.H h v mv:=(if_neg b).mp z
def Vr.mo(b:ow=some i)(z:bA P a c h v mv):Vr P a c h ow i v mv:=(if_pos b).mpr z
def Vr.mr(b:ow≠some i)(z:Rep KA P c.ν c.H h v mv):Vr P a c h ow i v mv:=(if_neg b).mpr z
def Vr.to(z:Vr P a c h ow i v mv)(f:ow=some i->bA P a c h v mv->bA P a c' h' v mv)(b:Tr KA c.ν c.H h c'.ν c'.H h'):Vr P a c' h' ow i v mv:=
 (Decidable.em (ow=some i)).elim (λ q=> .mo q (f q (z.own q))) λ q=> .mr q (b.rep (z.rep q))
end
def Heap.Ns.ug(x:aN KA c h c' h')(n:a∉c.S)(i:h.Ns a m):h'.Ns a m:=by
 refine i.elim λ o q=>q.elim λ f q=>q.elim λ d b=> ?_;by_cases g:a∈c.Fs
 ·exact (x.o7 a o b.1 n g).elim λ j e=>⟨_,f,d,e,b.2.1,b.2.2⟩
 ·exact {o,f,d,x.b3 b.1 n g λ k q=>by lia,b.2.1,b.2.2}
def Heap.IsCell.ug(x:aN KA c h c' h'){v:Option Value}(n:a∉c.S)(f:a∉c.Fs)(d:h.IsCell a v):h'.IsCell a v:=by
 obtain ⟨o,e,b⟩:=d;exact {o,x.b3 e n f λ g q=>by lia,b}
variable{o:Obj}
def aN.gQ(x:aN KA c h c' h')(e:h.get? a=some o)(n:a∉c.S):a∉c'.S:=λ m=>by
 rcases x.iG a m with z | z
 ·exact n z
 ·lia
def aN.jA(x:aN KA c h c' h')(e:h.get? a=some o)(n:a∉c.Fs):a∉c'.Fs:=λ m=>by
 rcases x.jN a m with z | z
 ·exact n z
 ·lia
variable{env:Env}{mv:Value}
def At.step{x:Str}(st:aN KA c h c' h')(a:At env c h m x mv):At env c' h' m x mv:=a.to id λ g o ζ e f d b=>{st.b3 e d b f,st.gQ e d,st.jA e b}
def bA.step(f:c.ok)(st:aN KA c h c' h')(r:bA P a c h v mv):bA P a c' h' v mv:=r.to (st.tr f) λ o e d b=>{st.b3 e b.2.1 b.2.2 d,st.bz _ b.1,st.gQ e b.2.1,st.jA e b.2.2}
variable{κ:List (Str×NameKind)}{Γ:List (Str×Nat)}{ow:Option Nat}{oa:Addr}{ρ:En}
def ER.to(x:ER P env κ Γ ow oa ρ c h)(g:Tr KA c.ν c.H h c'.ν c'.H h')(z:∀y b o,env.cells.lookup y=some b->h.get? b=some o->∃o',h'.get? b=some o')(u:env.locals∉c'.S)(d:∀m,h.Ns env.locals m->h'.Ns env.locals m)
 (l:∀x b o,env.cells.lookup x=some b->h.get? b=some o->Gy o->b∉c.S->b∉c.Fs->h'.get? b=some o/\b∉c'.S/\b∉c'.Fs)
 (p:∀i,ow=some i->(ay ρ i).isSome=true->∀o,h.get? oa=some o->Gy o->oa∈c.H/\oa∉c.S/\oa∉c.Fs->h'.get? oa=some o/\oa∈c'.H/\oa∉c'.S/\oa∉c'.Fs):ER P env κ Γ ow oa ρ c' h':=
 {x.fk,x.kn,x.gl,x.bl,λ y t=>(x.cx y t).imp λ b q=>q.elim λ o q=>(z y b o q.1 q.2).imp λ o' e=>⟨q.1,e⟩,u,x.ns.casesOn λ m n k=> .mk m (d m n) λ y i v j f=>(k y i v j f).casesOn λ mv a r=> .mk mv (a.to id (l y)) (r.to (λ q r=>r.to g (p i q (f▸rfl))) g)}
def ER.step(j:c.ok)(st:aN KA c h c' h')(x:ER P env κ Γ ow oa ρ c h):ER P env κ Γ ow oa ρ c' h':=
 x.to (st.tr j) (λ ζ ζ ζ ζ=>st.there _ _) (x.ns.casesOn λ m n ζ=>n.elim λ o q=>q.elim λ ζ q=>q.elim λ ζ z=>st.gQ z.1 x.nl) (λ m n=>Heap.Ns.ug st x.nl n) (λ ζ k o ζ e d g f=>{st.b3 e g f d,st.gQ e g,st.jA e f}) λ i ζ ζ o e d b=>{st.b3 e b.2.1 b.2.2 d,st.bz _ b.1,st.gQ e b.2.1,st.jA e b.2.2}
def E7{a b j k m L:Nat}(h:j+k<=m)(e:a+b+m<=L):a+j+b+k<=L:=by rw [sG a j,Nat.add_assoc];exact ag (ee h _) e
structure Rm(A:Around)(l:List Env)(d:Nat):Prop where
 hd:A.handled=none
 fr:A.frames=some l
 dp:A.depth+4*d+60<=recursionLimit
 un:A.units+40*d+400<=cLine
structure Hyp(Kf:Frag)(P:Params)(A:Around)(env:Env)(l:List Env)(d:Nat)(κ:List (Str×NameKind))(Γ:List (Str×Nat))(ow:Option Nat)(oa:Addr)(ρ:En)(σ:St)(c:Cx)(h:Heap):Prop where
 rm:Rm A l d
 fo:cO h c l
 g:Gd Kf P σ c h
 er:ER P env κ Γ ow oa ρ c h
 hl:∃fenv outer L,l=fenv::outer/\fenv.frame=some L/\env.frame=some L
def Hyp.next{A:Around}{l:List Env}{d:Nat}{σ':St}
 (H:Hyp Kf P A env l d κ Γ ow oa ρ σ c s.heap) (p:bc Kf P c s σ' c' s'):Hyp Kf P A env l d κ Γ ow oa ρ σ' c' s'.heap:=
 {H.rm,H.fo.step p.st λ a m=>by rw [p.fs];exact m,p.good,H.er.step H.g.ok p.st,H.hl}
inductive vT(Kf:Frag)(P:Params)(r:R V)(c:Cx)(s:Shared)(mv:Value)(s':Shared):Prop
 | mk (v:V) (σ':St) (c':Cx) (e:r= .ok v σ') (p:bc Kf P c s σ' c' s') (q:Rep KA P c'.ν c'.H s'.heap v mv):vT Kf P r c s mv s'
section
variable(M:Model)(A:Around)(env:Env)(E:VP)
noncomputable def a6:List Expr->(List Value->Shared->Prop)->Shared->Prop
 | [],Q,s=>Q [] s
 | e::d,Q,s=>wpAny M A (eval e env) (λ v b=>a6 d (λ f=>Q (v::f)) b) E s
end
variable{M:Model}{A:Around}{env:Env}{E:VP}
theorem a6.mono{E':VP}(f:∀e s,E e s->E' e s):∀{es:List Expr} {Q d:List Value->Shared->Prop} {s:Shared},(∀vs s,Q vs s->d vs s)->a6 M A env E es Q s->a6 M A env E' es d s
 | [],_,_,_,b,x=>b _ _ x
 | _::_,_,_,_,b,x=>az x (λ ζ ζ y=>a6.mono f (λ ζ ζ z=>b _ _ z) y) f
noncomputable def noStar:Expr->Bool
 | .Starred _ _=>false
 | _=>true
def f9{e:Expr}{es:List Expr}(h:noStar e=true):starEach (e::es) env=(false,eval e env)::starEach es env:=by
 cases e<;>first | rfl | cases h
def a6.spliced{pos:Pos}:∀{es:List Expr} {Q:List Value->Shared->Prop} {s:Shared},es.all noStar=true->a6 M A env E es Q s->wpAny M A (PySem.spliced (backTo pos (starEach es env))) Q E s
 :=by
 intro i
 induction i with
 | nil=>
  intro _ _ _ x;exact aD x
 | cons e es g=>
  intro Q s h x
  exact by
   simp only [sy,qq] at h;rw [f9 h.1];show wpAny M A (PySem.spliced ((false,if false=true then _ else eval e env)::backTo pos _)) Q E s;exact af (az x (λ v d y=>af (aD (af (i1 (az (g h.2 y) (λ j f z=>aD z) λ ζ ζ z=>z))))) λ ζ ζ z=>z)
def a6.yh:∀{es:List Expr},es.all noStar=true->∀{pos:Pos},(backTo pos (starEach es env)).any (·.1)=false
 :=by
 intro d
 induction d with
 | nil=>
  intro _ _;exact rfl
 | cons e es b=>
  intro h pos
  exact by
   simp only [sy,qq] at h;rw [f9 h.1];exact b h.2
end
section
def cN:cY<=sizeLine:=by decide+kernel
variable{a:Int}
def qg(h:e_ a=true):a.natAbs.log2<201:=by
 by_cases b:a.natAbs=0
 ·rw [b];decide
 ·have:=(Nat.log2_lt b).mpr (by simpa [e_] using h:a.natAbs<2^200);exact Bl this
def i6(h:e_ a=true):Builtin.Int.intBits a<=201:=by
 unfold Builtin.Int.intBits;have:=qg h
 split<;>lia
section
variable{A:Around}{E:VP}{s:Shared}{Q:VP}{c:Cx}{P:Params}
def kH{T:String}{vs:List V}{mvs:List Value}(r:aj KA P c.ν c.H s.heap vs mvs)(e:c.ok)(d:∀b∈c.H,b<s.heap.objs.size):
 SeqAt (s.heap.push {cls:=.type T,data:=.seq mvs.toArray}) s.heap.objs.size T mvs/\s.heap.objs.size∉c.H/\aj KA P c.ν c.H (s.heap.push {cls:=.type T,data:=.seq mvs.toArray}) vs mvs:=
 {{0,dW _ rfl},λ m=>my _ (d _ m),(PK.push s _ s.toks).bN e r}
def aj.append{K:iO}{ν H:List Addr}{h:Heap}{vs d:List V}{b:List Value}:∀{a},aj K P ν H h vs a->aj K P ν H h d b->aj K P ν H h (vs++d) (a++b):=by
 induction vs with
 | nil=>intro a r q;cases r;exact q
 | cons v vs e=>exact λ r q=>r.elim λ m r=>r.elim λ f r=>r.1▸{m,_,rfl,r.2.1,e r.2.2 q}
variable{op:Operator}{σ:St}{v1 v2 v:V}{a b:Value}
def Nv(e:Nw v1 v2=some v)(r1:Rep KA P c.ν c.H s.heap v1 a)(f:Rep KA P c.ν c.H s.heap v2 b)(L:c.ok)(H:∀b∈c.H,b<s.heap.objs.size)(k:∀m s',PK s s'->Rep KA P c.ν c.H s'.heap v m->Q m s'):wpAny M0 A (binaryOp .Add a b) Q E s:=by
 refine aO e (λ e=> ?_) λ e=>aO e (λ e=> ?_) λ e=>aO e (λ e=> ?_) λ e=> ?_
 ·exact oA (λ a b=>wpAny _ A _ Q E s) e r1 f λ x y t u e=>add_int (k _ _ (.toks ..) (by cases e;exact ⟨_,rfl⟩))
 ·exact ab e λ x q e=>ab e λ y r e=>aR e λ p e=>bf (λ a=>wpAny _ A (binaryOp _ a b) Q E s) q r1 λ t=>bf (λ b=>wpAny _ A _ Q E s) r f λ u=>add_str (λ W Z=>k _ _ (.toks ..) (by cases e;exact {_,congrArg (Value.str · _) (tV x y).symm})) (ag p cN)
 ·refine ab e λ x q e=>ab e λ y r e=>aR e λ p e=>eG (λ a=>wpAny _ A (binaryOp _ a b) Q E s) q r1 λ F j I n r1=>eG (λ b=>wpAny M0 A (binaryOp .Add (.ref F) b) Q E s) r f λ M l J o f=> ?_;obtain ⟨C,n⟩:=n;obtain ⟨D,o⟩:=o;refine _root_.PySem.P.add_list n o ?_ (by simp only [e7,r1.length,f.length];exact ag (ag p ⋯) cN);rw [FW];have g:=kH (T:="list") (r1.append f) L H;exact k _ _ (.push ..) (by cases e;exact ⟨_,_,rfl,g.2.1,g.1,g.2.2⟩)
 ·refine ab e λ x q e=>ab e λ y r e=>aR e λ p e=>d6 (λ a=>wpAny M0 A (binaryOp .Add a b) Q E s) q r1 λ F j I n r1=>d6 (λ b=>wpAny M0 A (binaryOp .Add (.ref F) b) Q E s) r f λ M l J o f=> ?_;obtain ⟨C,h⟩:=id n;obtain ⟨D,i⟩:=id o;cases e;by_cases B:j= []
  ·refine concat_meets ⟨_,h,rfl⟩ ⟨_,i,rfl⟩ noFill_tuple_add seq_tuple_add PySem.F.slot_tuple_add PySem.F.entry_tuple_add (PySem.F.args_tuple_add_2 _ _) (tuple_addW0 _ _ j.toArray l.toArray C D none none #[] #[] (by simp [B])) {h,i,?_};subst B;cases F1 r1.length.symm;exact k _ _ (.refl _) ⟨_,_,rfl,J,o,f⟩
  ·by_cases G:l= []
   ·refine concat_meets ⟨_,h,rfl⟩ ⟨_,i,rfl⟩ noFill_tuple_add seq_tuple_add PySem.F.slot_tuple_add PySem.F.entry_tuple_add (PySem.F.args_tuple_add_2 _ _) (tuple_addW1 _ _ j.toArray l.toArray C D none none #[] #[] (by simpa using B) (by simp [G])) {h,i,?_};subst G;cases F1 f.length.symm;exact k _ _ (.refl _) (by rw [ng];exact ⟨_,_,rfl,I,n,r1⟩)
   ·have z:j.length+l.length<=sizeLine:=by rw [r1.length,f.length];exact ag (ag p ⋯) cN
    refine concat_meets ⟨_,h,rfl⟩ ⟨_,i,rfl⟩ noFill_tuple_add seq_tuple_add PySem.F.slot_tuple_add PySem.F.entry_tuple_add (PySem.F.args_tuple_add_2 _ _) (tuple_addW2 _ _ j.toArray l.toArray C D none none #[] #[] (by simpa using B) (by simpa using G) (kdl_size z)) {h,i,?_};rw [FW];obtain ⟨N,S,U⟩:=kH (T:="tuple") (r1.append f) L H;exact k _ _ (.push ..) ⟨_,_,rfl,S,N,U⟩
def MZ(e:M1 op v1 v2=some v)(r1:Rep KA P c.ν c.H s.heap v1 a)(j:Rep KA P c.ν c.H s.heap v2 b)
 (n:A.handled=none) (r:c.ok) (o:∀b∈c.H,b<s.heap.objs.size) (k:∀m s',PK s s'->Rep KA P c.ν c.H s'.heap v m->Q m s'):wpAny M0 A (binaryOp op a b) Q E s:=by
 have f:∀(i:Int),some (V.int i)=some v->Q (.int i s.toks) {s with toks:=s.toks+1}:=λ i q=>k _ _ (.toks ..) (by cases q;exact ⟨_,rfl⟩)
 cases op<;>first
  | exact Nv e r1 j r o k
  | (cases e;done)
  | refine oA (λ a b=>wpAny M0 A (binaryOp _ a b) Q E s) e r1 j λ x y t u e=> ?_
 ·exact sub_int (f _ e)
 ·refine aR e λ d e=>mul_int (f _ e) ?_;unfold IntMulOk;have h:=i6 d.1;have l:=i6 d.2;simp only [qq,not_and,Bool.not_eq_true];intro _;unfold Builtin.Int.intTooBig;refine qp ?_;have p:(402:Int)<bitsLine:=by decide+kernel
  exact Int.not_lt.mpr (Int.le_trans (Int.add_le_add (qn.mpr h) (qn.mpr l)) (Int.le_of_lt p))
 ·exact aR e λ d e=>mod_int' (Int.ne_of_gt d) (f _ e)
 ·refine aR e λ d e=>pow_int d.2.1 ?_ (f _ e);have h:=i6 d.1;have:(Builtin.Int.intBits x:Int)*y<=201*200:=Int.mul_le_mul (qn.mpr h) d.2.2 d.2.1 ⋯;exact Int.le_trans this ⋯
 ·refine aR e λ d e=>lshift_int_or n (λ z=>absurd d.2.1 (Int.not_le.mpr z)) (λ ζ=> ?_) (λ ζ=>f _ e);exact Int.le_trans (Int.add_le_add (qn.mpr (i6 d.1)) d.2.2) ⋯
 ·exact aR e λ d e=>rshift_int d.1 (f _ e)
 ·exact or_int (f _ e)
 ·exact and_int (f _ e)
 ·refine aR e λ d e=>floordiv_int (Int.ne_of_gt d.1) (f _ e) (.inl ?_);unfold Builtin.divisionGoesByPylong;refine Bool.and_eq_false_imp.mpr λ g=> ?_
  exfalso
  have g:=gx g
  dsimp only at g
  split at g
  ·exact absurd g ⋯
  ·have:=(Nat.log2_lt (Int.natAbs_ne_zero.mpr (Int.ne_of_gt d.1))).mpr (xn (Int.natAbs_lt_natAbs_of_nonneg_of_lt (Int.le_of_lt d.1) d.2) ⋯:_<2^17);exact absurd g (by rw [Nat.div_eq_of_lt (xn this ⋯)];decide)
end
end
section
variable{ks:List Str}
def cP.pairs:∀{mvs:List Value} {es:List DictEntry},cP Pw ks mvs es->Pairs (strKind prog w) es (ks.zip mvs)/\(∀e∈es,∃k,(strKind prog w).is k e.key=true/\e.hash=(strKind prog w).hash k)/\ks.length=mvs.length:=by
 induction ks with
 | nil=>
  intro mvs es h;cases mvs with
  | cons _ _=>exact h.elim
  | nil=>cases es with
   | cons _ _=>exact h.elim
   | nil=>exact {.nil,λ ζ h=>absurd h kR,rfl}
 | cons k ks a=>
  intro mvs es h;cases mvs with
  | nil=>exact h.elim
  | cons v g=>cases es with
   | nil=>exact h.elim
   | cons e es=>
    obtain ⟨⟨t,b⟩,c,d,r⟩:=h;exact {.cons (b▸ff k) d (a r).1,λ x f=>(a0.mp f).elim (λ q=>q▸{k,b▸ff k,c}) ((a r).2.1 x),congrArg _ (a r).2.2}
def BV:∀{mvs:List Value} {es:List DictEntry},ks.length=mvs.length->Pairs (strKind prog w) es (ks.zip mvs)->(∀e∈es,∃k,(strKind prog w).is k e.key=true/\e.hash=(strKind prog w).hash k)->cP Pw ks mvs es:=by
 induction ks with
 | nil=>
  intro mvs es d h _;cases mvs with
  | cons _ _=>contradiction
  | nil=>cases h;exact trivial
 | cons k ks l=>
  intro mvs es d h c;cases mvs with
  | nil=>contradiction
  | cons v n=>
   cases h with
   | cons b f g=>
    obtain ⟨t,i⟩:=Value.isStrOf_shape b;refine (c _ (.head _)).elim λ m a=> ?_;have:k=m:=(strKind _ w).inj _ _ _ b a.1;subst this;exact {⟨t,i⟩,a.2,f,l (sx d) g λ x j=>c x (.tail _ j)}
theorem hI:∀{ks:List Str} {mvs:List Value},ks.length=mvs.length->(ks.zip mvs).map (·.1)=ks
 | [],[],_=>rfl
 | k::ks,v::a,h=>by simp [hI (by simpa using h)]
 | [],_::_,h=>rfl
 | _::_,[],h=>by simp_all
variable{h:Heap}{a:Addr}
def DictAt.dictOf{mvs:List Value}(x:DictAt Pw h a ks mvs):h.DictOf (strKind prog w) a (ks.zip mvs)/\ks.length=mvs.length/\(a==sysModules)=false:=x.elim λ d q=>q.elim λ n b=>b.2.1.pairs.elim λ f c=>{{_,d.toArray,n,b.1,⟨rfl,rfl,rfl⟩,rfl,λ y e=>c.1 y (by simp_all),by simp_all,by simp [hI c.2];exact b.2.2.1},c.2,b.2.2.2}
def DictAt.of{kvs:List (Str×Value)}(x:h.DictOf (strKind prog w) a kvs)(s:(a==sysModules)=false):DictAt Pw h a (kvs.map (·.1)) (kvs.map (·.2)):=by
 obtain ⟨o,l,k,e,⟨b,c,d⟩,f,g,j,i⟩:=x;obtain ⟨u,v,n,q⟩:=o;simp at b c d f;subst b c d f
 exact {l.toList,k,by assumption,BV (by simp) ((by
  clear e j i g
  induction kvs with
  | nil=>rfl
  | cons p r t=>exact Eq.symm (List.zip_of_prod rfl rfl):(kvs.map (·.1)).zip (kvs.map (·.2))=kvs).symm▸j) λ y m=>g y (by simpa using m),i,s}
noncomputable def m6:List Str->List Value->Str->Option Value
 | k::ks,v::b,x=>if k=x then some v else m6 ks b x
 | _,_,_=>none
theorem il:∀(ks:List Str) (mvs:List Value) (x:Str),valueAt (ks.zip mvs) x=m6 ks mvs x
 | [],_,_=>rfl
 | _::_,[],_=>rfl
 | k::ks,v::b,x=>by
  have c:=il ks b x;unfold valueAt at c ⊢;show _=if k=x then some v else m6 ks b x
  by_cases h:k=x
  ·simp [h]
  ·simp_all
section
variable{K:iO}{P:Params}{ν H:List Addr}{h:Heap}
def lZ{ks:List Str}{x:Str}{v:V}:∀{vs:List V} {mvs:List Value},aj K P ν H h vs mvs->df ks vs x=some v->∃m,m6 ks mvs x=some m/\Rep K P ν H h v m:=by
 induction ks with
 | nil=>intro vs mvs _ e;contradiction
 | cons k ks b=>
  intro vs mvs r e;cases vs with
  | nil=>contradiction
  | cons v vs=>
   refine r.elim λ m r=>r.elim λ d r=>r.1▸?_;by_cases q:k=x
   ·exact {m,if_pos q,ar ((if_pos q).symm.trans e)▸r.2.1}
   ·exact (b r.2.2 ((if_neg q).symm.trans e)).imp λ c z=>{(if_neg q).trans z.1,z.2}
def pG{ks:List Str}{x:Str}:∀{vs:List V} {mvs:List Value},aj K P ν H h vs mvs->df ks vs x=none->m6 ks mvs x=none:=by
 induction ks with
 | nil=>exact λ ζ ζ=>rfl
 | cons k ks b=>
  intro vs mvs r e;cases vs with
  | nil=>subst r;rfl
  | cons v vs=>
   refine r.elim λ m r=>r.elim λ c r=>r.1▸?_;by_cases q:k=x
   ·cases (if_pos q).symm.trans e
   ·exact (if_neg q).trans (b r.2.2 ((if_neg q).symm.trans e))
end
variable{σ:St}{c:Cx}{h:Heap}
def Gd.at{P:Params}{i:Nat}{a:Addr}{o:O}(g:Gd Kf P σ c h)(hi:c.ν[i]? =some a)(e:σ[i]? =some o):∃d,c.μ[i]? =some d/\aS P c h a d o:=by
 have b:=g.lm▸(di.mp e).1;exact {_,cQ b,g.obj i _ a _ e hi (cQ b)}
def h_{v:V}{j:Value}{p:List Str×List V}(C:Value->Prop)(g:Gd Kf Pw σ c h)(r:Rp c h v j)(e:dictOf σ v=some p)(k:∀a mvs,DictAt Pw h a p.1 mvs->cy c h p.2 mvs->C (.ref a)):C j:=by
 refine aO e (λ e=> ?_) λ e=>ab e λ i m e=>ab e λ o n e=>iq C m r λ a l=> ?_
 ·cases V.QQ e;exact r.elim λ a q=>q.elim λ mvs b=>b.1▸k a mvs b.2.2.1 b.2.2.2
 ·exact (g.at l n).elim λ ζ f=>(f.2.QP e).elim λ ζ q=>q.elim λ mvs d=>k a mvs d.1 d.2
end
section
variable{K:iO}{P:Params}{ν H:List Addr}{h:Heap}{l:List V}
def lH:∀{b} {mvs},strsOf l=some b->aj K P ν H h l mvs->PyProof.Rows.StrsAre mvs b:=by
 induction l with
 | nil=>intro b mvs e r;cases e;subst r;exact .nil
 | cons v l f=>
  intro b mvs e r;refine ab e λ x d e=>ab e λ j c e=> ?_;cases e;cases V.jW d;obtain ⟨m,i,rfl,⟨t,rfl⟩,g⟩:=r;exact .cons _ _ (f c g)
def eW:∀{a} {mvs},strsOf l=some a->aj K P ν H h l mvs->StrsAre a mvs:=by
 induction l with
 | nil=>intro a mvs e r;cases e;subst r;trivial
 | cons v l d=>
  intro a mvs e r;refine ab e λ x c e=>ab e λ i b e=> ?_;cases e;cases V.jW c;obtain ⟨m,g,rfl,q,f⟩:=r;exact {q,d b f}
end
section
variable{A:Around}{E:VP}{s:Shared}{Q:VP}{c:Cx}{σ:St}{P:Params}{ν H:List Addr}{h:Heap}
def yZ{a b}{m n}{f}{v}(C:Value->Value->Bool->Prop)(e:ii a b f=some v)(r1:Rep KA P ν H h a m)(j:Rep KA P ν H h b n)(g:∀x y t u,C (.int x t) (.int y u) (f x y)):C m n v:=
 ab e λ x d e=>ab e λ y i e=>cf (λ m=>C m n v) d r1 λ t=>cf (λ n=>C _ n v) i j λ u=>ar e▸g x y t u
def MO(p q:Nat):(!decide ([q]< [p]))=decide (p<=q):=by
 by_cases a:p<=q
 ·have:¬[q]< [p]:=by
   intro h;rw [List.cons_lt_cons_iff] at h
   rcases h with h | ⟨_,h⟩
   ·lia
   ·simp_all
  simp [a,this]
 ·have: [q]< [p]:=by rw [List.cons_lt_cons_iff];left;lia
  simp [a,this]
variable{v1 v2:V}{b:Bool}{a1 a2:Value}
def Ls{op:CmpOp}(e:pR op v1 v2=some b)
 (r1:Rp c s.heap v1 a1) (f:Rp c s.heap v2 a2) (k:Q (.bool b) s):wpAny M0 A (compareOp op a1 a2) Q E s:=by
 revert k
 cases op<;>first
  | (cases e;done)
  | exact yZ (λ a1 a2 b=>Q (.bool b) s->wpAny _ A (compareOp .Lt a1 a2) Q E s) e r1 f λ ζ ζ ζ ζ k=>lt_int k
  | exact yZ (λ a1 a2 b=>Q (.bool b) s->wpAny M0 A (compareOp .Gt a1 a2) Q E s) e r1 f λ ζ ζ ζ ζ k=>gt_int k
  | exact yZ (λ a1 a2 b=>Q (.bool b) s->wpAny M0 A (compareOp .GtE a1 a2) Q E s) e r1 f λ ζ ζ ζ ζ k=>ge_int k
  | skip
 refine aO e (λ e=>yZ (λ a1 a2 b=>Q (.bool b) s->wpAny M0 A (compareOp .LtE a1 a2) Q E s) e r1 f λ ζ ζ ζ ζ k=>le_int k) λ e=>(ab e λ p a e=>ab e λ q d e=>ab a λ x l a=>ab d λ y m d=>(bf (λ a1=>Q (.bool b) s->wpAny M0 A (compareOp .LtE a1 a2) Q E s) l r1 λ t=>bf (λ a2=>Q (.bool b) s->wpAny M0 A (compareOp .LtE (.str x t) a2) Q E s) m f λ u k=>PySem.P.le_str ?_));obtain ⟨n,i,a⟩:=oz a;obtain ⟨o,j,d⟩:=oz d;cases a;cases d;cases e;rw [i,j,MO];exact k
def EJ(x):∀{vs} {d},PyProof.Rows.StrsAre vs d->vs.any (isStrOf x)=d.any (· ==x):=λ h=>any_isStrOf x h
variable{v:V}{mvs:List Value}
def vg{l}{a}{j}{T}(o:T= "tuple"∨T= "list")(e:L8 v l=some b)(r1:Rp c s.heap v a)(u:SeqAt s.heap j T mvs)(r:cy c s.heap l mvs):
 (Q (.bool b) s->wpAny M0 A (compareOp .In a (.ref j)) Q E s)/\(Q (.bool !b) s->wpAny M0 A (compareOp .NotIn a (.ref j)) Q E s):=by
 refine ab e λ x q e=>ab e λ B p e=>bf (λ a=>(Q _ s->wpAny _ A (compareOp .In a _) Q E s)/\(Q _ s->wpAny _ A (compareOp _ a _) Q E s)) q r1 λ t=> ?_;have m:=lH p r;obtain ⟨n,i⟩:=u;have g:∀y,y∈mvs.toArray->MeetsSeq.EqGives y _ _:=λ y z=>eq_isStrOf x t m y (by simp_all);rw [←(by rw [←Array.any_toList];rw [EJ x m,ar e]:mvs.toArray.any _=b)]
 rcases o with rfl | rfl
 ·exact {λ k=>SeqRoads2.in_tuple _ g i k,λ k=>SeqRoads2.notIn_tuple _ g i k}
 ·exact {λ k=>SeqRoads2.in_list _ g i k,λ k=>SeqRoads2.notIn_list _ g i k}
variable{ss:List Str}
def v_:∀{mvs},StrsAre ss mvs->ItemsAre (strKind prog w) ss mvs:=by
 induction ss with
 | nil=>intro mvs h;cases mvs with
  | nil=>exact .nil
  | cons _ _=>exact h.elim
 | cons x f a=>intro mvs h;cases mvs with
  | nil=>exact h.elim
  | cons v d=>
   obtain ⟨⟨t,e⟩,r⟩:=h;exact .cons (e▸ff x) (a r)
variable{a:Addr}
def SeqAt.ju(f:SeqAt h a "tuple" mvs)(d:StrsAre ss mvs):IsTupleKey (strKind prog w) h ss a:=f.elim λ n e=>{_,_,n,e,rfl,rfl,v_ d}
noncomputable def xj(o:Option (List Str×Addr×Value)):List (List Str×Addr×Value):=match o with
 | none=> []
 | some p=> [p]
def x3(P:Params)(ν H:List Addr)(h:Heap)(a:Addr)(o:Option (List Str×V)):Prop:=match o with
 | none=>cE P h a none
 | some p=>∃k m d,cE P h a (some (p.1,k,m))/\SeqAt h k "tuple" d/\StrsAre p.1 d/\Rep KA P ν H h p.2 m
def QU(P:Params)(ν H:List Addr)(h:Heap)(o:Option (List Str×V))(q:Option (List Str×Addr×Value)):Prop:=match o with
 | none=>q=none
 | some p=>∃k m,q=some (p.1,k,m)/\Rep KA P ν H h p.2 m
variable{o:Option (List Str×V)}
def x3.lg(x:x3 Pw ν H h a o):∃q,h.DictOfH (tupleKind (strKind prog w)) a (xj q)/\(a==sysModules)=false/\QU Pw ν H h o q:=by
 cases o with
 | none=>
  exact x.elim λ n d=>{none,{_,_,n,d.1,⟨rfl,rfl,rfl⟩,rfl,rfl,λ ζ h=>absurd h kR,kO},d.2,rfl}
 | some p=>
  obtain ⟨k,m,g,⟨n,e,j⟩,l,i,r⟩:=x;exact {some (p.1,k,m),{_,_,n,e,⟨rfl,rfl,rfl⟩,rfl,rfl,λ y f=>cu.mp f▸l.ju i,by simp [xj]},j,k,m,rfl,r}
def j5{j}(C:Value->Prop)(g:Gd Kf Pw σ c h)(r:Rp c h v j)(e:oC σ v=some o)(k:∀a,x3 Pw c.ν c.H h a o->C (.ref a)):C j:=by
 refine ab e λ i n e=>ab e λ x t e=>iq C n r λ a l=> ?_;cases O.xk e;obtain ⟨_,_,z⟩:=g.at l t;cases o with
 | none=>exact k a z.2
 | some p=>exact z.elim λ ζ q=>q.elim λ u q=>q.elim λ m q=>q.elim λ f d=>k a ⟨u,m,f,d.2.1,d.2.2.1,d.2.2.2.1,d.2.2.2.2⟩
variable{ks:List Str}
def Ii{q}(x:QU P ν H h o q):(atKey (xj q) ks).isSome=isKey o ks:=by
 cases o with
 | none=>subst x;rfl
 | some p=>
  obtain ⟨k,m,rfl,_⟩:=x;simp only [xj,atKey,List.find?_cons,List.find?_nil,isKey];by_cases z:p.1=ks<;>simp [z]
def vV(A:Around)(s:Shared)(b:Bool)(a1 a2:Value):Prop:=∀Q E,((∀t,Q (.bool b) {s with toks:=t})->wpAny M0 A (compareOp .In a1 a2) Q E s)/\((∀t,Q (.bool !b) {s with toks:=t})->wpAny M0 A (compareOp .NotIn a1 a2) Q E s)
def BH{vs}{x}{u}(j:DictAt Pw s.heap a ks mvs)(i:cy c s.heap vs mvs)(e:(df ks vs x).isSome=b):vV A s b (.str x u) (.ref a):=by
 have d:=j.dictOf
 have g:(valueAt (ks.zip mvs) x).isSome=b:=by
  rw [il,←e];cases q:df ks vs x with
  | none=>rw [pG i q];rfl
  | some y=>refine (lZ i q).elim λ m f=> ?_;rw [f.1];rfl
 exact λ Q E=>{λ k=>wpAny_in_of (ff x) d.2.2 d.1.mapOf (by rw [g];exact k _),λ k=>wpAny_notIn_of (ff x) d.2.2 d.1.mapOf (by rw [g];exact k _)}
def nU(g:Gd Kf Pw σ c s.heap)(L:A.units+10<cLine)(e:fq σ v1 v2=some b)
 (r1:Rp c s.heap v1 a1) (n:Rp c s.heap v2 a2):
 vV A s b a1 a2:=by
 refine aO e (λ e=>ab e λ l j e=>d6 _ j n λ B mvs ζ p i=> ?_) λ e=>
  aO e (λ e=>ab e λ l j e=>eG _ j n λ B mvs ζ p i=> ?_) λ e=>
  aO e (λ e=>ab e λ y M e=>ab e λ x r e=>bf _ M n λ t=>bf (λ a1=>vV A s b a1 _) r r1 λ u=> ?_) λ e=>
  aO e (λ e=>ab e λ x r e=>ab e λ d G e=>h_ _ g n G λ a mvs F i=>bf (λ a1=>vV A s b a1 _) r r1 λ u=> ?_) λ e=>
  ab e λ l j e=>ab e λ ks J e=>ab e λ o I e=>j5 _ g n I λ a N=>d6 (λ a1=>vV A s b a1 _) j r1 λ B S ζ p i=> ?_
 ·intro Q E;have z:=vg (Q:=Q) (A:=A) (E:=E) (.inl rfl) e r1 p i;exact {λ k=>z.1 (k _),λ k=>z.2 (k _)}
 ·intro Q E;have z:=vg (Q:=Q) (A:=A) (E:=E) (.inr rfl) e r1 p i;exact {λ k=>z.1 (k _),λ k=>z.2 (k _)}
 ·cases e;exact λ Q E=>{λ k=>SB.contains (k _),λ k=>SB.notContains (k _)}
 ·exact BH F i (ar e)
 ·have room:(tupleKind (strKind prog w)).room A.in1:=fZ (ee (by simp) _) L;have m:(tupleKind (strKind prog w)).is _ ks B:=p.ju (eW J i);refine N.lg.elim λ q f=> ?_;have C:=(Ii f.2.2).trans (ar e);exact λ Q E=>{λ k=>wpAny_in_heap room m f.2.1 f.1 (by rw [C];exact k _),λ k=>wpAny_notIn_heap room m f.2.1 f.1 (by rw [C];exact k _)}
end
section
variable{A:Around}{E:VP}{s:Shared}{Q:VP}{c:Cx}{σ:St}{o:Option Bool}
def Az{r}{C:Bool->Prop}(h:rk o=some r)(g:∀b,o=some b->C (!b)):C r:=ab h λ b e h=>ar h▸g b e
variable{v1 v2:V}{b:Bool}{a1 a2:Value}
def ra{P}{ν H}{n}{f}(J:GA P ν H s n f)(p:A.units+n<cLine)(M:(v1.l?.isSome=true/\v2.l?.isSome=true)∨(v1.t?.isSome=true/\v2.t?.isSome=true))(e:eqB f v1 v2=some b):Rep KA P ν H s.heap v1 a1->Rep KA P ν H s.heap v2 a2->RcNeAt A s a1 a2 (!b):=by
 have l:=fZ (ed _ _) p
 revert M
 have d:∀{v w:V} {C},v.l?.isSome=true/\w.l?.isSome=true∨v.t?.isSome=true/\w.t?.isSome=true->v.l? =none∨w.l? =none->v.t? =none∨w.t? =none->C:=λ h a b=>by grind
 refine tM (λ v w b=>v.l?.isSome=true/\w.l?.isSome=true∨v.t?.isSome=true/\w.t?.isSome=true->Rep KA P ν H _ v a1->Rep KA P ν H _ w a2->RcNeAt A s a1 a2 !b) e (λ h=>d h (.inl rfl) (.inl rfl)) (λ ζ h=>d h (.inl rfl) (.inl rfl)) (λ ζ ζ h=>d h (.inl rfl) (.inl rfl)) (λ ζ ζ h=>d h (.inl rfl) (.inl rfl)) (λ ζ ζ h=>d h (.inl rfl) (.inl rfl)) ?_ (λ ζ ζ h=>d h (.inl rfl) (.inr rfl)) (λ ζ ζ h=>d h (.inl rfl) (.inr rfl)) ?_ ?_ λ ζ ζ h=>d h (.inr rfl) (.inl rfl)
 ·intro x y g b B e _ ⟨a,G,r,_,u,i⟩ ⟨I,m,q,_,z,j⟩;obtain ⟨k,rfl,t⟩:=J g B;subst r;subst q;exact (gi t p e i j).2▸RcNeAt.tuples u.dG z.dG l (gi t p e i j).1
 ·intro x y g b D B e _ ⟨a,G,r,_,u,i⟩ ⟨I,m,q,_,z,j⟩;obtain ⟨k,rfl,t⟩:=J g B;subst r;subst q;have F:G.toArray.size=m.toArray.size:=by simp [i.length,j.length,D]
  have L:=(gi t p e i j).2;rw [F,uY,ff,nc,←F] at L;exact L▸RcNeAt.lists u.isList z.isList F l (gi t p e i j).1
 ·intro x y D _ ⟨a,G,r,_,u,i⟩ ⟨I,m,q,_,z,j⟩;subst r;subst q;exact RcNeAt.lists_lengths u.isList z.isList (by simp [i.length,j.length,D]) l
def Lk(g:Gd Kf Pw σ c s.heap)(q:A.units+30<cLine)(e:Qx σ v1 v2=some b)
 (r1:Rp c s.heap v1 a1) (k:Rp c s.heap v2 a2):RcNeAt A s a1 a2 b:=by
 have h:A.units+20<cLine:=fZ (ee (by simp) _) q;have m:=fZ (ed _ _) q;refine aO e (λ e=>ab e λ x d e=>ab e λ y f e=>yv (λ a1=>RcNeAt A s a1 a2 b) d r1 (yv (λ a2=>RcNeAt A s _ a2 b) f k (ar e▸RcNeAt.bool_bool _ _))) λ e=>aO e (λ e=>ab e λ x d e=>ab e λ y f e=>cf (λ a1=>RcNeAt A s a1 a2 b) d r1 λ t=>cf (λ a2=>RcNeAt A s _ a2 b) f k λ u=>ar e▸RcNeAt.int_int _ _ _ _) λ e=>aO e (λ e=>ab e λ x d e=>ab e λ y f e=>bf (λ a1=>RcNeAt A s a1 a2 b) d r1 λ t=>bf (λ a2=>RcNeAt A s _ a2 b) f k λ u=>ar e▸RcNeAt.str_str _ _ _ _) λ e=> ?_;have n:GA Pw c.ν c.H s 20 (some _):=λ g e=>by cases e;exact {19,rfl,Ga 19}
 refine aO e (λ e=>ab e λ x d e=>ab e λ y f e=>Az e λ b e=>ra n h (.inl {by rw [d];rfl,by rw [f];rfl}) e r1 k) λ e=>aO e (λ e=>ab e λ x d e=>ab e λ y f e=>Az e λ b e=>ra n h (.inr {by rw [d];rfl,by rw [f];rfl}) e r1 k) λ e=>ab e λ i H e=>ab e λ o J e=>ab e λ C p e=>ab e λ l I e=>aR e λ P e=>iq (λ a1=>RcNeAt A s a1 a2 b) H r1 λ a F=>eG (λ a2=>RcNeAt A s _ a2 b) I k λ N L ζ B k=> ?_;have G:=ar e;subst G;cases O.AP p;obtain ⟨_,_,_,M,z,r⟩:=g.at F J;cases l with
 | cons _ _=>contradiction
 | nil=>
  subst k;cases C with
  | nil=>
   subst r;exact RcNeAt.lists (e:=λ ζ=>true) z.isList B.isList rfl m λ j D ζ=>absurd D (gV _)
  | cons v C=>exact RcNeAt.lists_lengths z.isList B.isList (by simp [r.length]) m
variable{v:V}
def OA{C:V->Prop}(h:hF o=some v)(g:∀b,o=some b->C (.bool b)):C v:=ab h λ b e h=>ar h▸g b e
def vG{op}(g:Gd Kf Pw σ c s.heap)(f:A.units+30<cLine)(e:hF (Dp op σ v1 v2)=some v)
 (r1:Rp c s.heap v1 a1) (d:Rp c s.heap v2 a2) (k:∀b t,v= .bool b->Q (.bool b) {s with toks:=t}):wpAny M0 A (compareOp op a1 a2) Q E s:=by
 have a:A.units+10<cLine:=fZ (ee (by simp) _) f
 revert k
 refine OA (C:=λ v=>(∀b t,v= .bool b->Q (.bool b) {s with toks:=t})->wpAny _ A _ Q E s) e λ b e k=> ?_
 cases op<;>first
  | exact Qd 20 (fZ (ee (by simp) _) f) e r1 d _ w E Q (k b _ rfl)
  | exact Lk g f e r1 d _ w E Q (k b _ rfl)
  | exact (nU g a e r1 d Q E).1 λ t=>k b t rfl
  | exact Ls e r1 d (k b _ rfl)
  | skip
 all_goals first
  | (done)
  | exact ab e λ i h e=>(nU g a h r1 d Q E).2 λ t=>ar e▸k b t rfl
variable{mvs:List Value}{i:Int}
def sL{vs}{h}(e:ma vs i=some v)(r:cy c h vs mvs):∃j m,seqIndex? i mvs.length=some j/\mvs[j]? =some m/\Rp c h v m:=(Option.bind_eq_some_iff.mp e).elim λ j d=>(r.get d.2).elim λ m a=>{j,m,r.length▸d.1,a.1,a.2}
def item_list{l}{g}{t}(hi:idx i=true)(e:ma l i=some v)(h:SeqAt s.heap g "list" mvs)(p:cy c s.heap l mvs)(k:∀m t,Rp c s.heap v m->Q m {s with toks:=t}):wpAny M0 A (getItem (.ref g) (.int i t)) Q E s:=by
 refine (sL e p).elim λ j q=>q.elim λ m q=>q.elim λ d a=> ?_;unfold seqIndex? at d;by_cases f:i<0
 ·simp only [f,if_true] at d
  split at d
  ·rename_i n;simp [qq] at n;refine wpAny_getItem_list_neg h.isList f (by simp;lia) (iF hi).1 ?_ (k m _ a.2);simp [ar d];exact a.1
  ·contradiction
 ·simp only [f,if_false] at d
  split at d
  ·refine wpAny_getItem_list h.isList (Int.not_lt.mp f) (iF hi).2 ?_ (k m _ a.2);simp [ar d];exact a.1
  ·contradiction
def xy(g:Gd Kf Pw σ c s.heap)(W:A.units+30<cLine)(e:itemOf σ v1 v2=some v)
 (r1:Rp c s.heap v1 a1) (z:Rp c s.heap v2 a2) (k:∀m t,Rp c s.heap v m->Q m {s with toks:=t}):wpAny M0 A (getItem a1 a2) Q E s:=by
 refine aO e (λ e=>ab e λ l n e=>ab e λ i y e=>aR e λ h e=>d6 (λ a1=>wpAny _ A (getItem a1 a2) Q E s) n r1 λ I mvs ζ B r=>cf (λ a2=>wpAny _ A _ Q E s) y z λ t=> ?_) λ e=>
  aO e (λ e=>ab e λ l n e=>ab e λ i y e=>aR e λ h e=>eG (λ a1=>wpAny _ A (getItem a1 a2) Q E s) n r1 λ I mvs ζ B r=>cf (λ a2=>wpAny _ A _ Q E s) y z λ t=>item_list h e B r k) λ e=>
  aO e (λ e=>ab e λ x n e=>ab e λ i y e=>aR e λ h e=>ab e λ J H e=>bf (λ a1=>wpAny _ A (getItem a1 a2) Q E s) n r1 λ u=>cf (λ a2=>wpAny _ A _ Q E s) y z λ t=> ?_) λ e=>
  aO e (λ e=>ab e λ x h e=>ab e λ d M e=>h_ (λ a1=>wpAny _ A (getItem a1 a2) Q E s) g r1 M λ a mvs L r=>bf (λ a2=>wpAny _ A _ Q E s) h z λ u=> ?_) λ e=>
  ab e λ l n e=>ab e λ ks U e=>ab e λ o P e=>j5 (λ a1=>wpAny _ A (getItem a1 a2) Q E s) g r1 P λ a Z=>d6 (λ a2=>wpAny _ A _ Q E s) n z λ I lm ζ B r=>ab e λ p S e=>aR e λ N e=> ?_
 ·exact (sL e r).elim λ j q=>q.elim λ m f=>getItem_tuple B.isTup (iF h).1 (iF h).2 f.1 (by rw [List.getElem?_toArray];exact f.2.1) (k m _ f.2.2)
 ·refine SB.getItem ?_ (by rw [H];rfl) ?_
  ·have C:=iF h;unfold fitsSsize;rw [qp (Int.not_lt.mpr C.1),qp (Int.not_le.mpr C.2)];rfl
  ·rw [(by unfold Txt.item;rw [H];rfl:Txt.item x i={#[J]})];cases e;exact k _ _ ⟨_,rfl⟩
 ·obtain ⟨F,_,sm⟩:=L.dictOf;refine (lZ r e).elim λ m f=> ?_;exact wpAny_getItem_of (ff x) F.mapOf (by rw [il];exact f.1) (k m _ f.2)
 ·cases e;subst S;obtain ⟨q,F,sm,G,m,T,rv⟩:=Z.lg;subst T N;exact wpAny_getItem_heap (p:=(G,m)) (fZ (ee (by simp) _) W) (B.ju (eW U r)) F (by simp [xj,atKey]) (k m _ rv)
end
section
variable{M:Model}{A:Around}{env:Env}{E:VP}{pos:Pos}{f:Value}{es:List Expr}{s:Shared}
def vr{Q}(a:es.all noStar=true)
 (h:a6 M A env E es (λ vs s'=>Q {pos:=vs} s') s):wpAny M A (evalArgs f true (backTo pos (starEach es env)) []) Q E s:=by
 have z:=a6.spliced (pos:=pos) a h;cases es with
 | nil=>exact evalArgs_nil3 h
 | cons e es=>
  simp only [sy,qq] at a;rw [f9 a.1] at z ⊢;exact evalArgs_plain z
variable{first:List Value}{Q:VP}
def fu{Pp:Heap->Prop}(b:es.all noStar=true)
 (c:∀h,Pp h->∃k,(k=Keeper.frame∨k=Keeper.machine∨k=Keeper.boundFrame)/\Looks M h (keeperOf f) k)
 (h:a6 M A env E es (λ vs s'=>Pp s'.heap/\wpAny M A (PySem.call f (first++vs)) Q E s') s):wpAny M A (callWith pos f first (backTo pos (starEach es env)) []) Q E s:=
 callWith_of (by rw [a6.yh b];rfl) c (vr b h)
def bh(d:es.all noStar=true)
 (c:∀a,f≠.ref a) (h:a6 M A env E es (λ vs s'=>wpAny M A (PySem.call f (first++vs)) Q E s') s):wpAny M A (callWith pos f first (backTo pos (starEach es env)) []) Q E s:=by
 refine fu (Pp:=λ ζ=>True) d (λ h ζ=>{.machine,.inr (.inl rfl),Looks.of_pure ?_}) (a6.mono (λ ζ ζ x=>x) (λ vs s' x=>⟨trivial,x⟩) h);cases f<;>first | rfl | exact absurd rfl (c _)
noncomputable def zo(b:x7):Value:=match b with
 | .len=> .builtin "len" | .ord=> .builtin "ord" | .min=> .builtin "min" | .sum=> .builtin "sum" | .max=> .builtin "max"
 | .tuple=> .type "tuple" | .list=> .type "list" | .str=> .type "str" | .int=> .type "int" | .nC=> .type "int" | .dict=> .type "dict"
section
variable{A:Around}{E:VP}{s:Shared}{Q:VP}{c:Cx}{σ:St}{vs:List V}{mvs:List Value}{v:V}{x m:Value}{TH:V}{n:Nat}
def oH(h:n<=cY):(n:Int)<2^63:=by
 have:cY=16777216:=rfl;exact Int.lt_of_le_of_lt (qn.mpr h) (by decide+kernel)
def dd(h:n<=1000000):n<=sizeLine:=ag (ag h ⋯) cN
def Lw(e:DV v=some TH)(r:Rp c s.heap v x)(k:∀m t,Rp c s.heap TH m->Q m {s with toks:=t}):wpAny M0 A (PySem.call (.builtin "len") [x]) Q E s:=by
 refine aO e (λ e=>ab e λ y g e=>aR e λ d e=>bf (λ x=>wpAny _ A (PySem.call _ [x]) Q E s) g r λ t=> ?_) λ e=>
  aO e (λ e=>ab e λ y g e=>aR e λ d e=>eG (λ x=>wpAny _ A (PySem.call _ [x]) Q E s) g r λ j mvs ζ i h=> ?_) λ e=>
  ab e λ y g e=>aR e λ d e=>d6 (λ x=>wpAny _ A (PySem.call _ [x]) Q E s) g r λ j mvs ζ i h=> ?_
 ·cases e;exact PyProof.Rows.len_str (Int.not_le.mpr (oH d)) (k _ _ ⟨_,rfl⟩)
 ·cases e;exact call_len_list i.isList (by rw [e7,h.length];exact oH d) (k _ _ {_,by rw [e7,h.length]})
 ·cases e;exact PyProof.Rows.len_tuple i.isTup (by rw [e7,h.length];exact oH d) (k _ _ {_,by rw [e7,h.length]})
def CL(e:(ae v.l? λ l=>gd (l.length<=1000000) (some (V.tup l)))=some TH)(r:Rp c s.heap v x)(u:c.ok)(p:∀b∈c.H,∃o,s.heap.get? b=some o)(k:∀m s',PK s s'->Rp c s'.heap TH m->Q m s'):wpAny M0 A (PySem.call (.type "tuple") [x]) Q E s:=by
 refine ab e λ l q e=>aR e λ t e=>eG (λ x=>wpAny _ A (PySem.call _ [x]) Q E s) q r λ z mvs ζ y i=> ?_;cases e;refine call_tuple_list y.isList (λ j h=> ?_) (by rw [e7,i.length];exact dd t);have d:PK s {s with heap:=j.push {cls:=.type "tuple",data:=.seq mvs.toArray}}:=⟨λ b o g=>b9 _ (h b o g),rfl,rfl⟩
 exact k _ _ d {_,mvs,rfl,λ m=>by
  obtain ⟨o,g⟩:=p _ m
  exact my _ (fY (h _ o g)),{0,dW _ rfl},d.bN u i}
def HQ(e:(ae v.t? λ l=>gd (l.length<=1000000) (some (V.lst l)))=some TH)(r:Rp c s.heap v x)(B:c.ok)(p:∀b∈c.H,∃o,s.heap.get? b=some o)(k:∀m s',PK s s'->Rp c s'.heap TH m->Q m s'):wpAny M0 A (PySem.call (.type "list") [x]) Q E s:=by
 refine ab e λ l t e=>aR e λ y e=>d6 (λ x=>wpAny _ A (PySem.call _ [x]) Q E s) t r λ z mvs ζ C g=> ?_;cases e;refine call_list_seq z (.inr rfl) C.choose_spec rfl rfl (λ j h q u=> ?_) (by rw [e7,g.length];exact dd y);have d:PK s {s with heap:=j}:=⟨q,rfl,rfl⟩
 exact k _ _ d {_,mvs,rfl,λ m=>by
  obtain ⟨o,i⟩:=p _ m
  exact my _ (fY i),⟨h,u⟩,d.bN B g}
def JE(e:JF v=some TH)(r:Rp c s.heap v x)(k:∀m t,Rp c s.heap TH m->Q m {s with toks:=t}):wpAny M0 A (PySem.call (.type "str") [x]) Q E s:=
 aO e (λ e=>ab e λ y b e=>aR e λ ζ e=>bf (λ x=>wpAny _ A (PySem.call _ [x]) Q E s) b r λ t=>PySem.P.str_of_str (k _ _ (by cases e;exact ⟨_,rfl⟩))) λ e=>
  ab e λ y b e=>aR e λ d e=>cf (λ x=>wpAny _ A (PySem.call _ [x]) Q E s) b r λ t=>PySem.P.str_of_int (o4 (qg d) (by simp)) (k _ _ (by cases e;exact ⟨_,rfl⟩))
def yY{l}:∀{is} {mvs} {h},intsOf l=some is->cy c h l mvs->mvs.length=is.length/\∀i m,mvs[i]? =some m->∃t,m=Value.int (is.getD i 0) t:=by
 induction l with
 | nil=>intro is mvs h e r;cases e;subst r;exact {rfl,λ i m h=>by contradiction}
 | cons v l d=>
  intro is mvs h e r;refine ab e λ x j e=>ab e λ o a e=> ?_;cases e;cases V.o6 j;obtain ⟨m,k,rfl,⟨t,rfl⟩,g⟩:=r;refine {congrArg _ (d a g).1,λ i m b=> ?_};cases i with
  | zero=>cases b;exact ⟨t,rfl⟩
  | succ i=>exact (d a g).2 i m b
def v5(is:List Int):∀n,n<=is.length->preSum (λ i=>is.getD i 0) n=(is.take n).sum
 :=by
 intro d
 induction d with
 | zero=>
  intro _;exact rfl
 | succ n b=>
  intro h
  exact by
   simp only [preSum,b (kS h)];have a:n<is.length:=h;simp only [List.take_succ,List.sum_append];simp [cQ a]
variable{f:Obj}
def wj{h:Heap}{d b:Addr}{o}(e:h.get? d=some o)(a:b∈[h.objs.size,d]):b<(h.push f).objs.size:=by
 rw [xo]
 rcases a0.mp a with rfl | a
 ·simp_all
 ·cases cu.mp a;exact Bl (fY e)
def wi{s}{d}{tk}(e:∀b o,b∉[s.heap.objs.size]->(s.heap.push f).get? b=some o->d.get? b=some o):PK s {s with heap:=d,toks:=tk}:=
 .of λ b o a=>e b o (λ g=>by cases cu.mp g;exact my _ (fY a)) (b9 _ a)
def JC(p:A.handled=none)(e:(ae v.l? λ l=>ae (intsOf l) λ is=>some (V.int is.sum))=some TH)(r:Rp c s.heap v x)(k:∀m s',PK s s'->Rp c s'.heap TH m->Q m s'):wpAny M0 A (PySem.call (.builtin "sum") [x]) Q E s:=by
 refine ab e λ l y e=>ab e λ is t e=>eG (λ x=>wpAny _ A (PySem.call _ [x]) Q E s) y r λ B mvs ζ d C=> ?_;cases e;obtain ⟨h,j⟩:=yY t C;obtain ⟨G,g⟩:=id d;refine call_sum_walkG (wpAny_pyIter_list d.isList {s.heap.objs.size,_,_,_,_,_,λ i=>is.getD i 0,rfl,Walks.list (A:=A.in1) p _ B (jG (fY g)) _,{{_,dW _ rfl,rfl,rfl},d.isList.push _},λ b q=>wj g q,λ i m z=>j i m (by simpa using z),λ F H D u=>k _ _ (wi λ b o n e=>u b o n e) {D,?_}});simp only [e7,h,v5 is _ (bV _),List.take_length]
def Lr(G:A.handled=none)(e:(ae v.t? λ l=>iX l λ a b=>iZ a b λ x y=>some (V.int (if x<y then y else x)))=some TH)(r:Rp c s.heap v x)(k:∀m s',PK s s'->Rp c s'.heap TH m->Q m s'):wpAny M0 A (PySem.call (.builtin "max") [x]) Q E s:=by
 refine ab e λ l J e=>d6 (λ x=>wpAny _ A (PySem.call _ [x]) Q E s) J r λ B mvs ζ h T=> ?_
 revert h
 refine tH (λ mvs=>SeqAt _ B _ mvs->wpAny _ A _ Q E s) e T λ p q D F e P S=>oA (λ D F=>SeqAt _ B _ [D,F]->wpAny _ A _ Q E s) e P S λ a b t u e h=> ?_;cases e;obtain ⟨N,z⟩:=id h
 have d:∀(i) (m),[.int a t,.int b u].toArray[i]? =some m->∃t,m=Value.int ([a,b].getD i 0) t:=λ i m C=>by
  rcases i with _ | _ | i
  ·cases C;exact ⟨t,rfl⟩
  ·cases C;exact ⟨u,rfl⟩
  ·contradiction
 refine call_max_walk (wpAny_pyIter_tuple h.dG {s.heap.objs.size,_,_,_,_,_,_,rfl,Walks.tuple (A:=A.in1) G _ B (jG (fY z)) _,{{_,dW _ rfl,rfl,rfl},{_,b9 _ z,rfl,N,rfl}},λ x L=>wj z L,size_pos_of_not_empty rfl,CmpOf.ints_gt _ d,λ m W Z H I=> ?_});obtain ⟨U,rfl⟩:=d _ _ H;refine k _ _ (wi λ b o n e=>I b o n e) {U,?_};simp only [e7,dx,List.length_nil,argBest];by_cases j:a<b<;>simp [j]
end
end
structure CD(q:String×Str×String):Prop where
 pa:PlainAttrs q.1
 slot:Slot q.1 q.2.1 q.2.2
 ty:typeOf (.builtin q.2.2)=pure (.type "method_descriptor")
noncomputable def m4(m:Met):String×Str×String:=match m with
 | .split=>("str","split","str.split") | .find=>("str","find","str.find") | .lower=>("str","lower","str.lower")
 | .strip=>("str","strip","str.strip") | .join=>("str","join","str.join") | .pK=>("dict","get","dict.get") | .eH=>("dict","get","dict.get")
def m5(m):CD (m4 m):=by
 cases m
 ·exact ⟨F.plainAttrs_str,F.slot_str_split,F.type_str_split⟩
 ·exact ⟨F.plainAttrs_str,F.slot_str_find,F.type_str_find⟩
 ·exact ⟨F.plainAttrs_str,F.slot_str_lower,F.type_str_lower⟩
 ·exact ⟨F.plainAttrs_str,F.slot_str_strip,F.type_str_strip⟩
 ·exact ⟨F.plainAttrs_str,F.slot_str_join,F.type_str_join⟩
 ·exact ⟨F.plainAttrs_dict,F.slot_dict_get,F.type_dict_get⟩
 ·exact ⟨F.plainAttrs_dict,F.slot_dict_get,F.type_dict_get⟩
section
variable{A:Around}{E:VP}{s:Shared}{Q:VP}{c:Cx}{σ:St}{vs:List V}{mvs:List Value}{v TJ:V}{m₀:Value}{x y:Str}{t u:Tok}{h:Heap}{ν H:List Addr}{P:Params}
def qV(l):aj KA P ν H h ((l.map (·.1)).map .str) (strValues l):=by
 induction l with
 | nil=>exact rfl
 | cons p r a=>exact {_,_,rfl,⟨p.2,rfl⟩,a}
def C0(f:y.length≠0/\x.length<=cY/\(Builtin.Str.partsBetween x (Builtin.Str.occurrences x y 0 x.length (x.length+1)) y.length).length<=cY)(r:c.ok)(q:∀b∈c.H,∃o,s.heap.get? b=some o)
 (k:∀m s',PK s s'->Rp c s'.heap (.lst ((Txt.split x y).map .str)) m->Q m s'):wpAny M0 A (PySem.call (.builtin "str.split") [.str x t,.str y u]) Q E s:=by
 have a:∀(l:List _) (p),l.map _=Txt.split x y->Q _ {s with heap:=s.heap.push _,toks:=p}:=λ l p j=>
  k _ _ (.push ..) {_,strValues l,rfl,λ m=>(q _ m).elim λ o n=>my _ (fY n),{0,dW _ rfl},j▸qV l}
 cases d:decide (x.length<y.length) || decide (Builtin.Str.strKind x<Builtin.Str.strKind y)
 ·cases e:(Builtin.Str.occurrences x y 0 _ _).isEmpty
  ·refine call_meets F.slot_str_split (typeIs_str _ _ _) F.entry_str_split (F.args_str_split_2 _ _) (meets_str_split_sep x y t u d (beq_false_of_ne f.1) e (ag f.2.1 cN) (ag f.2.2 cN)) ?_;rw [strsFrom_eq];exact a _ _ ((numbered_texts _ _).trans ((if_neg (ne_true_of_eq_false d)).trans (if_neg (ne_true_of_eq_false e))).symm)
  ·exact call_meets F.slot_str_split (typeIs_str _ _ _) F.entry_str_split (F.args_str_split_2 _ _) (meets_str_split_not_found x y t u d (beq_false_of_ne f.1) e)
    (a [(x,t)] _ ((if_neg (ne_true_of_eq_false d)).trans (if_pos e)).symm)
 ·exact call_meets F.slot_str_split (typeIs_str _ _ _) F.entry_str_split (F.args_str_split_2 _ _) (meets_str_split_cannot_occur x y t u d)
   (a [(x,t)] _ (if_pos d).symm)
def oL{mvs}{d}(h:PyProof.Rows.StrsAre mvs d):∃l,l.map (·.1)=d/\strValues l=mvs:=by
 induction h with
 | nil=>exact {[],rfl,rfl}
 | cons x t r e=>
  exact e.elim λ l b=>{(x,t)::l,congrArg _ b.1,congrArg _ b.2}
variable{m:Value}
def Ij(e:oe (ae v.l? λ l=>oD x l) (ae v.t? λ l=>oD x l)=some TJ)(r:Rp c s.heap v m)(k:∀m t,Rp c s.heap TJ m->Q m {s with toks:=t}):wpAny M0 A (PySem.call (.builtin "str.join") [.str x t,m]) Q E s:=by
 refine aO e (λ e=>ab e λ l i e=>ab e λ D d e=>aR e λ b e=>eG (λ m=>wpAny _ A (PySem.call _ [.str x t,m]) Q E s) i r λ z C ζ q p=> ?_) λ e=>
  ab e λ l i e=>ab e λ D d e=>aR e λ b e=>d6 (λ m=>wpAny _ A (PySem.call _ [.str x t,m]) Q E s) i r λ z C ζ q p=> ?_
 ·obtain ⟨o,f,g⟩:=oL (lH d p);exact SC.join (g▸q.isList) f b λ G j=>k _ j (by cases e;exact ⟨_,rfl⟩)
 ·obtain ⟨o,f,g⟩:=oL (lH d p);subst f;obtain ⟨n,B⟩:=q;exact call_meets F.slot_str_join (typeIs_str _ _ _) F.entry_str_join (F.args_str_join_2 _ _) (meets_str_join_tuple x t z o (nt b)) {{_,n,B,rfl,by rw [g]},post_join o {joinFit_length (nt b),λ G j=>k _ j (by cases e;exact ⟨_,rfl⟩)}}
def xc{ks}{vs}{mvs}{d}{b}(e:aj KA P ν H h vs mvs)(f:Rep KA P ν H h d b):Rep KA P ν H h ((df ks vs x).getD d) ((valueAt (ks.zip mvs) x).getD b):=by
 rw [il];cases q:df ks vs x with
 | none=>exact pG e q▸f
 | some y=>exact (lZ e q).elim λ g a=>a.1▸a.2
def HO{m}(g:Gd Kf Pw σ c s.heap)(e:kx m σ v vs=some TJ)(r:Rp c s.heap v m₀)(D:cy c s.heap vs mvs)
 (k:∀m s',PK s s'->Rp c s'.heap TJ m->Q m s'):wpAny M0 A (PySem.call (.builtin (m4 m).2.2) (m₀::mvs)) Q E s:=by
 have B:∀m t,Rep KA _ _ c.H s.heap _ m->Q m {s with toks:=t}:=λ m t q=>k _ _ (.toks ..) q
 have z:∀{id} {f:Str->Str->Option V},ae _ _=some _->(∀x y t u,f x y=some TJ->wpAny _ A _ Q E s)->wpAny _ A _ Q E s:=λ {id f} e g=>
  ab e λ x j e=>bf (λ m=>wpAny _ A (PySem.call _ (m::mvs)) Q E s) j r λ t=>fJ (λ l=>wpAny _ A (PySem.call _ _) Q E s) e D λ b n e o=>ab e λ y T e=>bf (λ n=>wpAny M0 A (PySem.call (.builtin id) [.str x t,n]) Q E s) T o λ u=>g x y t u e
 cases m
 ·exact z e λ x y t u e=>aR e λ G e=>C0 G g.ok g.low λ m s' p q=>k m s' p (ar e▸q)
 ·exact z e λ x y t u e=>SC.find (B _ _ (by cases e;exact ⟨_,rfl⟩))
 ·refine ab e λ x j e=>aR e λ N e=>bf (λ m=>wpAny _ A (PySem.call _ (m::mvs)) Q E s) j r λ t=> ?_;have q:=ar e;subst q;cases F1 N.1;subst D;exact SC.lower N.2 (B _ _ ⟨_,rfl⟩)
 ·exact z e λ x y t u e=>aR e λ G e=>SC.stripChars (λ t' U=>B _ U (by cases e;exact ⟨_,rfl⟩)) (ag G cN)
 ·exact ab e λ x j e=>bf (λ m=>wpAny _ A (PySem.call _ (m::mvs)) Q E s) j r λ t=>fJ (λ l=>wpAny _ A (PySem.call _ _) Q E s) e D λ b n e o=>Ij e o B
 ·exact ab e λ p I e=>h_ (λ m=>wpAny _ A (PySem.call (.builtin "dict.get") (m::mvs)) Q E s) g r I λ a S C J=>fJ (λ l=>wpAny _ A (PySem.call _ _) Q E s) e D λ b n e o=>ab e λ x j e=>bf (λ n=>wpAny _ A (PySem.call _ [.ref a,n]) Q E s) j o λ t=>call_meetsIn F.slot_dict_get (C.dictOf).1.typeIs F.entry_dict_get (F.args_dict_get_2 _ _) (meets_dict_get _ a (ff x) (C.dictOf).2.2) {_,C.dictOf.1.mapOf,B _ _ (ar e▸xc J rfl)}
 ·refine ab e λ p I e=>h_ (λ m=>wpAny _ A (PySem.call _ (m::mvs)) Q E s) g r I λ a S C J=>tH (λ l=>wpAny (model _ w) A (PySem.call _ _) Q E s) e D λ b d n W e o Z=>ab e λ x j e=>bf (λ n=>wpAny _ A (PySem.call (.builtin "dict.get") [.ref a,n,W]) Q E s) j o λ t=> ?_;obtain ⟨M,_,sm⟩:=C.dictOf;exact call_meetsIn F.slot_dict_get M.typeIs F.entry_dict_get (F.args_dict_get_3 _ _ _) (meets_dict_get_default _ a (show (strKind _ w).is x (.str x t)=true from ff x) sm _) {_,M.mapOf,B _ _ (ar e▸xc J Z)}
def K3(e:(ae v.s? λ s=>ey s.cps.toList λ c=>some (V.int c))=some TJ)(r:Rp c s.heap v m)(k:∀m t,Rp c s.heap TJ m->Q m {s with toks:=t}):wpAny M0 A (PySem.call (.builtin "ord") [m]) Q E s:=by
 refine ab e λ x d e=>bf (λ m=>wpAny _ A (PySem.call _ [m]) Q E s) d r λ t=> ?_;obtain ⟨f,b,e⟩:=oz e;cases e;exact ord_of_one (show x.cps.size=1 by rw [Array.ext' b];rfl) (k _ _ (Array.ext' b▸⟨_,rfl⟩))
def M3{b:x7}(o:b≠.nC/\b≠.dict)(i:A.handled=none)(g:Gd Kf Pw σ c s.heap)(e:ED b vs=some v)(r:cy c s.heap vs mvs)
 (k:∀m s',PK s s'->Rp c s'.heap v m->Q m s'):wpAny M0 A (PySem.call (zo b) mvs) Q E s:=by
 have f:∀m t,Rep KA _ _ c.H s.heap v m->Q m {s with toks:=t}:=λ m t q=>k _ _ (.toks ..) q;cases b
 ·exact fJ (λ l=>wpAny _ A (PySem.call _ l) Q E s) e r λ a m e r=>Lw e r f
 ·exact fJ (λ l=>wpAny _ A (PySem.call _ l) Q E s) e r λ a m e r=>K3 e r f
 ·exact fJ (λ l=>wpAny _ A (PySem.call _ l) Q E s) e r λ a m e r=>CL e r g.ok g.low k
 ·exact fJ (λ l=>wpAny _ A (PySem.call _ l) Q E s) e r λ a m e r=>HQ e r g.ok g.low k
 ·refine tH (λ l=>wpAny _ A (PySem.call _ l) Q E s) e r λ a b m n e G I=>oA (λ m n=>wpAny _ A (PySem.call _ [m,n]) Q E s) e G I λ p q t u e=>min_two_ints i λ J L j=> ?_;cases e
  split
  ·rename_i z;exact k _ _ (.of j) {_,by rw [if_pos z]}
  ·rename_i z;exact k _ _ (.of j) {_,by rw [if_neg z]}
 ·exact fJ (λ l=>wpAny _ A (PySem.call _ l) Q E s) e r λ a m e r=>Lr i e r k
 ·exact fJ (λ l=>wpAny _ A (PySem.call _ l) Q E s) e r λ a m e r=>JC i e r k
 ·exact fJ (λ l=>wpAny _ A (PySem.call _ l) Q E s) e r λ a m e r=>JE e r f
 ·exact fJ (λ l=>wpAny _ A (PySem.call _ l) Q E s) e r λ a m e r=>ab e λ x F e=>aR e λ D e=>ab e λ n C e=>bf (λ m=>wpAny _ A (PySem.call _ [m]) Q E s) F r λ t=>KIN.call_text C D (f _ _ (by cases e;exact ⟨_,rfl⟩))
 ·exact absurd rfl o.1
 ·exact absurd rfl o.2
end
section
def sM(k n)(t):(Value.str k t).isStr n=(k==n):=rfl
variable{P:Params}{ks:List Str}
def kC(n):∀{mvs} {es},cP P ks mvs es->(es.find? (·.key.isStr n)).map (·.val)=m6 ks mvs n/\es.any (·.refKey)=false:=by
 induction ks with
 | nil=>
  intro mvs es h;cases mvs with
  | cons _ _=>exact h.elim
  | nil=>cases es with
   | cons _ _=>exact h.elim
   | nil=>exact ⟨rfl,rfl⟩
 | cons k ks b=>
  intro mvs es h;cases mvs with
  | nil=>exact h.elim
  | cons v c=>cases es with
   | nil=>exact h.elim
   | cons e es=>
    obtain ⟨⟨t,a⟩,_,d,r⟩:=h;refine {?_,by simp [(by unfold DictEntry.refKey;rw [a]:e.refKey=false),(b r).2]};simp [List.find?_cons,a,sM];show _=if k=n then some v else m6 ks c n
    by_cases q:k=n
    ·simp_all
    ·rw [beq_false_of_ne q,if_neg q];exact (b r).1
def lX{mvs}{es}{n}(b)(r:cP P ks mvs es):lookIn b {.type "dict",none,.dict es.toArray n,#[]}=some (m6 ks mvs b):=by
 refine (kC b r).elim λ a c=> ?_;unfold lookIn;simp only;cases q:es.find? _ with
 | some e=>rw [q] at a;simp [←a]
 | none=>rw [q] at a;rw [←a];simp [c]
noncomputable def attrOk(K:Frag)(C:Addr)(n:Str):Bool:=
 (findIn K (.ref C) n==some none) && (findIn K (.ref C) "__getattribute__"==some (some (.builtin "object.__getattribute__"))) && (clsIn K C).any (·.hasDict)
section
variable{A:Around}{E:VP}{s:Shared}{Q:VP}{c:Cx}{σ:St}{ν H:List Addr}{h:Heap}{P:Params}{v:V}{m:Value}
def Rep.Ma(C:V->Value->Prop)(r:Rep KA P ν H h v m)(j:C .none .none)(g:∀b,C (.bool b) (.bool b))(ii:∀i t,C (.int i) (.int i t))(k:∀s t,C (.str s) (.str s t))(d:∀v a,v.n? =none->C v (.ref a)):C v m:=by
 cases v with
 | none=>subst r;exact j
 | bool b=>subst r;exact g b
 | int i=>obtain ⟨t,e⟩:=r;subst e;exact ii i t
 | str s=>obtain ⟨t,e⟩:=r;subst e;exact k s t
 | tup f=>obtain ⟨a,_,e,_⟩:=r;subst e;exact d _ a rfl
 | lst f=>obtain ⟨a,_,e,_⟩:=r;subst e;exact d _ a rfl
 | bH ks f=>obtain ⟨a,_,e,_⟩:=r;subst e;exact d _ a rfl
 | j7=>obtain ⟨a,e,_⟩:=r;subst e;exact d _ a rfl
 | j6 ks v=>obtain ⟨a,_,_,_,e,_⟩:=r;subst e;exact d _ a rfl
 | ref i=>obtain ⟨a,e,_⟩:=r;subst e;exact d _ a rfl
 | fn a=>subst r;exact d _ a rfl
 | exc w r c=>have r:n8 _ _ _ _ _ _ _ _:=r;cases r;exact d _ _ rfl
def Rep.handed(r:Rep KA P ν H h v m):handedIn m=true:=r.Ma (λ ζ m=>handedIn m=true) rfl (λ ζ=>rfl) (λ ζ ζ=>rfl) (λ ζ ζ=>rfl) λ ζ ζ ζ=>rfl
variable{x d C:Addr}{sl:Array (Option Value)}{ks:List Str}{mvs:List Value}{n:Str}
def vi{a}(X:Kf.In s.heap)(f:attrOk Kf C n=true)(l:s.heap.get? x=some {.ref C,some d,.plain,sl})
 (g:DictAt Pw s.heap d ks mvs) (i:m6 ks mvs n=some m) (j:handedIn m=true) (k:Q m {s with toks:=s.toks+1}):wpAny M0 A (getAttr (.ref x) n a) Q E s:=by
 refine g.elim λ p q=>q.elim λ r e=>(any_some (an f).2).elim λ o b=>get_value (od:=some _) X ⟨l,rfl,rfl,e.1⟩ (bq (an (an f).1).2) ?_ j k;unfold findObj;simp only [b.1];rw [Option.bind_some,bq (an (an f).1).1];unfold W.ownOf;rw [b.2];simp only [if_true,lX n e.2.1,i,Option.bind_some]
noncomputable def setM(ks:List Str)(ms:List Value)(k:Str)(m:Value):List Str×List Value:=match ks,ms with
 | a::ks,b::ms=>if a=k then (a::ks,m::ms) else (a::(setM ks ms k m).1,b::(setM ks ms k m).2)
 | _,_=>([k],[m])
def mP{k}(j:Rep KA P ν H h v m):∀{vs} {ms},ks.length=ms.length->aj KA P ν H h vs ms->(bB ks vs k v).1=(setM ks ms k m).1/\aj KA P ν H h (bB ks vs k v).2 (setM ks ms k m).2:=by
 induction ks with
 | nil=>
  intro vs ms f r;cases ms with
  | cons _ _=>contradiction
  | nil=>exact {rfl,m,[],rfl,j,rfl}
 | cons a ks i=>
  intro vs ms f r;cases vs with
  | nil=>subst r;contradiction
  | cons b vs=>
   obtain ⟨e,ms,rfl,l,g⟩:=r;by_cases q:a=k
   ·rw [show bB (a::ks) (b::vs) k v=(a::ks,v::vs) from if_pos q,show setM (a::ks) (e::ms) k m=(a::ks,m::ms) from if_pos q];exact ⟨rfl,m,ms,rfl,j,g⟩
   ·rw [show bB (a::ks) (b::vs) k v=(a::(bB ks vs k v).1,b::(bB ks vs k v).2) from if_neg q,show setM (a::ks) (e::ms) k m=(a::(setM ks ms k m).1,e::(setM ks ms k m).2) from if_neg q];exact {congrArg _ (i (sx f) g).1,e,_,rfl,l,(i (sx f) g).2}
def G9(n)(t)(m):∀{mvs} {es},cP P ks mvs es->
 (match es.findIdx? (·.key.isStr n) with
   | some i=>cP P (setM ks mvs n m).1 (setM ks mvs n m).2 (es.modify i λ e=>{e with val:=m})/\(setM ks mvs n m).1=ks
   | none=>cP P (setM ks mvs n m).1 (setM ks mvs n m).2 (es++ [{PyData.keyHash P n,.str n t,m}])/\n∉ks/\(setM ks mvs n m).1=ks++ [n]):=by
 induction ks with
 | nil=>
  intro mvs es h;cases mvs with
  | cons _ _=>exact h.elim
  | nil=>cases es with
   | cons _ _=>exact h.elim
   | nil=>exact {{⟨t,rfl⟩,rfl,rfl,trivial},kR,rfl}
 | cons k ks a=>
  intro mvs es h;cases mvs with
  | nil=>exact h.elim
  | cons v b=>cases es with
   | nil=>exact h.elim
   | cons e es=>
    obtain ⟨⟨u,f⟩,g,l,r⟩:=h;have a:=a r;rw [List.findIdx?_cons,f,sM];by_cases q:k=n
    ·cases q;rw [show setM (n::ks) (v::b) n m=(n::ks,m::b) from if_pos rfl];simp only [ff,if_true];exact {{⟨u,f⟩,g,rfl,r},trivial}
    ·rw [beq_false_of_ne q];rw [show setM (k::ks) (v::b) n m=(k::(setM ks b n m).1,v::(setM ks b n m).2) from if_neg q];cases j:es.findIdx? _ with
     | some i=>
      rw [j] at a;exact {{⟨u,f⟩,g,l,a.1},congrArg _ a.2}
     | none=>
      rw [j] at a;exact {{⟨u,f⟩,g,l,a.1},λ z=>(a0.mp z).elim (λ z=>q z.symm) a.2.1,congrArg _ a.2.2}
def wK{t}{es}{ep}(r:cP P ks mvs es)(k:ks.Nodup):
 ∃es' e,Obj.putName n (PyData.keyHash P n) (.str n t) m {.type "dict",none,.dict es.toArray ep,#[]}={.type "dict",none,.dict es'.toArray e,#[]}/\cP P (setM ks mvs n m).1 (setM ks mvs n m).2 es'/\(setM ks mvs n m).1.Nodup/\es'.length<=es.length+1:=by
 rw [Obj.putName_eq];unfold Obj.putNameByArray;have z:=G9 n t m r;simp only [List.findIdx?_toArray];cases g:es.findIdx? _ with
 | some i=>
  rw [g] at z;exact {_,ep,by simp,z.1,by simp_all,by simp}
 | none=>
  rw [g] at z;exact {_,ep+1,by simp,z.1,z.2.2▸List.nodup_append.mpr {k,by simp,λ a j b f=>by simp at f;subst f;exact λ q=>z.2.1 (q▸j)},by simp}
noncomputable def setOk(K:Frag)(C:Addr)(n:Str):Bool:=
 (findIn K (.ref C) "__setattr__"==some (some (.builtin "object.__setattr__"))) && plainOver K C && (takerIn K C n==some none) && (clsIn K C).any (·.hasDict)
def uo{Q}(X:Kf.In s.heap)(g:setOk Kf C n=true)(u:s.heap.get? x=some {.ref C,some d,.plain,sl})
 (z:DictAt Pw s.heap d ks mvs) (D:ks.length<=900)
 (k:∀p t,DictAt Pw p d (setM ks mvs n m).1 (setM ks mvs n m).2->(∀b,b≠d->p.get? b=s.heap.get? b)->Q () {s with heap:=p,toks:=t}):wpAny M0 A (setAttr (.ref x) n m) Q E s:=by
 refine z.elim λ l q=>q.elim λ ep q=>q.elim λ i a=>(any_some (an g).2).elim λ F f=> ?_;have I:InstAt _ x _ C (some _):=⟨u,rfl,rfl,i⟩;refine set_plain X I (bq (an (an (an g).1).1).1) (osa_open X I (an (an (an g).1).1).2 (bq (an (an g).1).2) λ b=>(wK (n:=n) (t:=s.toks+1) (m:=m) (ep:=ep) a.1 a.2.1).elim λ o q=>q.elim λ j e=> ?_)
 have B:l.length=ks.length:=by
  simp only [(cP.pairs a.1).1.length,A_,←(cP.pairs a.1).2.2,uY]
 refine af (aD (af (af (A8 u (af (Looks.here (looks_clsIn X f.1) ?_))))));rw [f.2];refine aD (af (aD (af (af (af (wpAny_askSetting (aD (af (wpAny_mkText (af (A8 i ?_)))))))))))
 have y:(!l.toArray.any (·.key.isStr n) && l.toArray.any (·.refKey))=false:=by
  simp [(kC n a.1).2]
 dsimp only
 rw [aRefKeyMayBeTheName_at,y];have r:=qr (Obj.putName n _ _ m) i (by rw [e.1];rfl);simp [e.1] at r;exact wpAny_updatePart i (af (wpAny_lookBehind r (pastItsLine_dict (by rw [e7,sizeLine_eq];exact ag (ag e.2.2.2 (ez (B▸D))) ⋯)) (aD (k _ _ ⟨o,j,r,e.2.1,e.2.2.1,a.2.2⟩ λ b q=>nA _ _ (Ne.symm q)))))
end
end
section
def litOk(v:V)(c:Const):Bool:=match c with
 | .none=>v.n?.isSome
 | .bool b=>uS v.b? λ a=>a==b
 | .int b=>uS v.i? λ a=>a==b
 | .str b=>uS v.s? λ a=>a==b
 | _=>false
noncomputable def cI(x:Str):Bool:=(x==("__debug__":Str))==false
def iT(Kf:Frag)(a:List (Str×NameKind))(x:Str)(v:Value):Bool:=
 cI x && a.lookup x==some .globalImplicit && nsIn Kf mainGlobals x==some (some v)
def gk(Kf:Frag)(a:List (Str×NameKind))(x:Str)(v:Value):Bool:=
 cI x && a.lookup x==some .globalImplicit && nsIn Kf mainGlobals x==some none && nsIn Kf builtinsNs x==some (some v)
noncomputable def y2{a b:Type}:a->b->Bool:=λ ζ ζ=>true
noncomputable def y3{a b c:Type}:a->b->c->Bool:=λ ζ ζ ζ=>true
noncomputable def y4{a b c d:Type}:a->b->c->d->Bool:=λ ζ ζ ζ ζ=>true
def baseOk(E:Expr):Bool:=eV E y3 y4 y3 y4 y3 y4 y4 (λ f ζ ζ ζ=>eV f (k7:=y4) (k11:=y3) (k12:=y3) (k13:=λ id ζ=>id != "super")) y4 y2 y3 y3 y3 y2 y2 y3 y4
def lV(E:Expr):Bool:= !(tZ E λ ζ ζ ζ ζ=>true)
noncomputable def cq:Expr->Bool
 | .Set _ _ _=>false
 | _=>true
def yg(E:Expr)(k:Str):Bool:=kG E λ c ζ ζ=>match c with
 | .str s=>k==s
 | _=>false
def uf{E}{k}(C:Expr->Prop)(h:yg E k=true)(g:∀a p,C (.Constant (.str k) a p)):C E:=
 lC C h λ c a p h=>by
  cases c<;>try exact absurd h cK
  exact bq h▸g a p
noncomputable def keysOk(ks:List Str)(es:List (Option Expr)):Bool:=match ks with
 | []=>es.isEmpty
 | k::ks=>match es with
  | []=>false
  | e::es=>uS e (λ e=>yg e k) && keysOk ks es
noncomputable def ov(a:List (Option Str))(es:List Expr):Bool:=match a with
 | []=>es.isEmpty
 | p::a=>match es with
  | []=>false
  | e::es=>(match p with
   | some s=>yg e s
   | none=>Jo e λ ζ c s ζ=>c== -1 && s.isNone) && ov a es
noncomputable def Kx(e:Expr):List Expr:=match e with
 | .FormattedValue e _ _ _=> [e]
 | _=> []
noncomputable def hU(es:List Expr):List Expr:=match es with
 | []=> []
 | e::es=>Kx e++hU es
def BW(E:Expr):Bool:=pT E λ a ζ=>a.isEmpty
def bo(a:List (Str×Nat))(i:Nat)(E:Expr):Bool:=dZ E λ y ζ=>cI y && a.lookup y==some i
mutual
noncomputable def ib(c:List (Str×Nat))(t:Tg)(E:Expr):Bool:=match t with
 | .loc i=>dZ E λ x ζ=>c.lookup x==some i
 | .tup b=>fU E λ a ζ ζ=>jf c b a
noncomputable def jf(c:List (Str×Nat))(b:List Tg)(a:List Expr):Bool:=match b with
 | []=>a.isEmpty
 | t::b=>match a with
  | []=>false
  | e::a=>noStar e && (ib c t e && jf c b a)
end
mutual
noncomputable def c5:Expr->List Str
 | .Name x _=> [x]
 | .Tuple a _ _=>gu a
 | _=> []
noncomputable def gu:List Expr->List Str
 | []=> []
 | e::a=>c5 e++gu a
end
noncomputable def dH(b a:List (Str×NameKind)):List (Str×NameKind):=a.map λ (n,k)=>if (k== .free && b.lookup n==some .cell) then (n,.cell) else (n,k)
def compΓ(b:List (Str×NameKind))(t:Tg)(a:Expr)(c:List (Str×Nat)):List (Str×Nat):=(c5 a).zip (bw t)++c.filter λ p=>b.lookup p.1==some .cell
def plainT(E:Expr):Bool:=dZ E λ ζ ζ=>true
def dG(E:Expr):Bool:=fU E λ ζ ζ ζ=>true
def vF(e:List (Str×NameKind))(d:List (Str×Nat))(f:Option Nat)(t:Tg)(a iter:Expr)(sc:Scope):Bool:=
 let c:=dH e sc.names
 let b:=compΓ c t a d
 sc.kind== .function && cq iter && sc.names.all (λ p=>p.2 != .cell) && sc.names.all (λ p=>p.2 != .local || sc.names.lookup p.1==some .local) &&
 sc.names.all (λ p=>p.2 != .free || e.lookup p.1==some .cell) && ib b t a && decide ((b.map (·.2)).Nodup) && (c5 a).all (λ x=>c.lookup x==some .local) &&
 decide ((c5 a).length=(bw t).length) && (match f with | none=>true | some i=> !(bw t).contains i && d.any λ p=>p.2==i && d.lookup p.1==some i)
end
section
variable{A:Around}{s:Shared}{c:Cx}{σ:St}{env:Env}{l:List Env}{d:Nat}{κ:List (Str×NameKind)}{Γ:List (Str×Nat)}{ow:Option Nat}{oa:Addr}{ρ:En}
def Rm.u{A:Around}{l:List Env}{d:Nat}(r:Rm A l d){n:Nat}(h:n<=300):A.units+n<cLine:=by
 exact o4 (fZ (kcj (ed A.units (40*d)) h) (Nat.add_lt_add_left (by decide:300<400) _)) r.un
variable{K:iO}{P:Params}{ν H:List Addr}{h:Heap}{vs:List V}{a:Value}
def aj.zj{ms:List Value}(r:aj K P ν H h vs (a::ms)):∃f b,vs=f::b/\Rep K P ν H h f a/\aj K P ν H h b ms:=by
 cases vs with
 | nil=>cases r
 | cons f vs=>obtain ⟨m,_,e,g,i⟩:=r;cases e;exact ⟨f,vs,rfl,g,i⟩
def aj.Ru(r:aj K P ν H h vs []):vs= []:=by
 cases vs with
 | nil=>rfl
 | cons b vs=>obtain ⟨m,_,e,_⟩:=r;cases e
def aj.one(r:aj K P ν H h vs [a]):∃e,vs= [e]/\Rep K P ν H h e a:=r.zj.elim λ e q=>q.elim λ l b=>{e,by rw [b.1,b.2.2.Ru],b.2.1}
def aj.two{b:Value}(r:aj K P ν H h vs [a,b]):∃g i,vs= [g,i]/\Rep K P ν H h g a/\Rep K P ν H h i b:=r.zj.elim λ g q=>q.elim λ l q=>q.elim λ e f=>f.2.one.elim λ i j=>{g,i,by simp_all,f.1,j.2}
variable{x:Str}{v:Value}
def uJ{N:Addr}(X:Kf.In h)(j:nsOkIn Kf N=true)(e:nsIn Kf N x=some (some v)):h.Ns N (h.nsMap N)/\h.nsMap N x=some v:=by
 have G:h.Ns N _:=.of_isNs (isNs_of_in X j);refine {G,?_};obtain ⟨o,p,n,k,f,q,g⟩:=G;unfold nsIn at e
 split at e
 ·rename_i i;cases k.symm.trans (X _ _ i);cases f
  split at e
  ·rename_i m b;cases e;rw [←g];unfold nsFind findBy;rw [←Array.find?_toList,b];rfl
  ·lia
 ·cases e
structure KF(Kf:Frag):Prop where
 K8:nsOkIn Kf mainGlobals=true
 Sz:nsOkIn Kf builtinsNs=true
 sm:(Kf.lookup sysModules).isSome=true
variable{E:VP}{Q:VP}{pos:Pos}
def jn(F:KF Kf)(X:Kf.In s.heap)(e:ER Pw env κ Γ ow oa ρ c s.heap)(h:iT Kf κ x v=true)(k:Q v s):wpAny M0 A (eval (.Name x pos) env) Q E s:=by
 have b:=uJ X F.K8 (bq (an h).2);refine Name_function_global e.fk (by unfold Env.kindOf;exact e.kn▸bq (an (an h).1).2) (loadGlobal_global (e.gl.symm▸b.1) b.2 k) (bq (an (an h).1).1)
def eX(F:KF Kf)(X:Kf.In s.heap)(b:ER Pw env κ Γ ow oa ρ c s.heap)(h:gk Kf κ x v=true)(k:Q v s):wpAny M0 A (eval (.Name x pos) env) Q E s:=(uJ X F.Sz (bq (an h).2)).elim λ G e=>Name_function_global b.fk (by unfold Env.kindOf;exact b.kn▸bq (an (an (an h).1).1).2) (loadGlobal_builtin (by rw [b.gl];exact .of_isNs (isNs_of_in X F.K8)) (nsMap_none_of_in X F.K8 (bq (an (an h).1).2)) (by rw [b.bl];exact G) e k) (bq (an (an (an h).1).1).1)
def Fz{i:Nat}{v:V}(f:ER Pw env κ Γ ow oa ρ c s.heap)(j:Γ.lookup x=some i)(p:ay ρ i=some v)(k:∀e,Vr Pw oa c s.heap ow i v e->Q e s):wpAny M0 A (loadName env x) Q E s:=
 f.ns.casesOn λ m n r=>(r x i v j p).casesOn λ e a q=>a.casesOn (λ b g=>wpAny_loadName_local f.fk b n g (k e q)) λ b t g o ζ ζ=>b.elim (λ b=>wpAny_loadName_cell f.fk b g o (k e q)) λ b=>wpAny_loadName_free f.fk b.1 g o (k e q) b.2
def jE{i:Nat}{v:V}(f:ER Pw env κ Γ ow oa ρ c s.heap)(g:cI x=true)(b:Γ.lookup x=some i)(j:ay ρ i=some v)
 (k:∀e,Vr Pw oa c s.heap ow i v e->Q e s):wpAny M0 A (eval (.Name x pos) env) Q E s:=wpAny_Name (Fz f b j k) (bq g)
def vD{b:Const}{g:Nat}{v:V}(h:litOk v b=true)(k:∀f t,Rp c s.heap v f->Q f {s with toks:=t}):wpAny M0 A (eval (.Constant b g pos) env) Q E s:=by
 rw [eval_Constant]
 cases b<;>first
  | exact absurd h cK
  | (obtain ⟨a,e,h⟩:=CK h
     first
      | (cases V.o_ e;cases bq h;exact aD (k _ _ rfl))
      | (cases V.o6 e;cases bq h;exact wpAny_mkInt (k _ _ ⟨_,rfl⟩))
      | (cases V.jW e;cases bq h;exact wpAny_mkText (k _ _ ⟨_,rfl⟩)))
  | (cases q:v.n? with
     | none=>rw [show litOk v _=v.n?.isSome from rfl,q] at h;cases h
     | some _=>cases V.AI q;exact aD (k _ _ rfl))
variable{r1:R (List V)}{r:R V}{p:Pr}{op:CmpOp}
def jl{e:Expr}(h:cq e=true):behindInMarks op e=false:=by
 cases e<;>first | rfl | cases h
def ye{o n:Expr}{E:VP}{Q:Bool->Shared->Prop}{i:Sem Value}(B:cq n=true)(h:wpAny M0 A (eval (.Compare o [op] [n] pos) env) (λ v s'=>∃b,v= .bool b/\Q b s') E s):
 wpAny M0 A (isTrue (.Compare o [op] [n] pos) env i) Q E s:=λ f p j=>by
 have g:=h f p j;simp only [isTrue_Compare1,eval_Compare1,Sem.wp_bind',Sem.wp_cmd_standAt] at g ⊢;refine Sem.wp_mono _ f _ (λ a q u k=>Sem.wp_mono _ f _ (λ b ζ y m=>Sem.wp_mono _ f _ (λ D t z e=> ?_) (λ ζ ζ ζ g=>g) _ _ m) (λ ζ ζ ζ g=>g) _ _ k) (λ ζ ζ ζ g=>g) _ _ g;obtain ⟨C,rfl,e⟩:=e;exact o1 e f _ j
def uq{T:String}{mvs:List Value}{v:V}{g:St}{f:Cx}{b:Shared}{E':VP}(o:v= .tup vs/\T= "tuple"∨v= .lst vs/\T= "list")(n:vs.length<=1000)(i:bc Kf Pw c s g f b)(j:cy f b.heap vs mvs)
 (k:∀m s',PK b s'->Rp f s'.heap v m->Q m s'):wpAny M0 A (newObj (.type T) (.seq mvs.toArray)) Q E' b:=by
 have e:=kH (T:=T) j i.good.ok i.good.lt;refine oZ (k _ _ (.push _ _ _) ?_) (show mvs.toArray.size<=sizeLine by rw [e7,j.length];exact dd (ag n (by simp)))
 rcases o with ⟨rfl,rfl⟩ | ⟨rfl,rfl⟩
 ·exact ⟨_,_,rfl,e.2.1,e.1,e.2.2⟩
 ·exact ⟨_,_,rfl,e.2.1,e.1,e.2.2⟩
end
section
variable{A:Around}{s:Shared}{c:Cx}{σ:St}{env:Env}{l:List Env}{d:Nat}{κ:List (Str×NameKind)}{Γ:List (Str×Nat)}{ow:Option Nat}{oa:Addr}{ρ:En}{E:VP}{Q:VP}{r1:R (List V)}{r:R V}{p:Pr}
def Dm{P}{v}{m}{h}{ν H}(r:Rep KA P ν H h v m):(m==Value.none)=ef v/\plainIs m .none=true:=
 r.Ma (λ v m=>(m==Value.none)=ef v/\plainIs m _=true) ⟨rfl,rfl⟩ (λ ζ=>⟨rfl,rfl⟩) (λ ζ ζ=>⟨rfl,rfl⟩) (λ ζ ζ=>⟨rfl,rfl⟩) λ v a b=>{by unfold ef;rw [b];rfl,rfl}
set_option tactic.hygienic true in
def cD{o}{n}{w}(b:baseOk o=true):attributeBase o n env w=w:=eJ (λ o=>attributeBase o n env w=w) b (λ ζ ζ ζ ζ=>rfl) (λ ζ ζ ζ ζ ζ=>rfl) (λ ζ ζ ζ ζ=>rfl) (λ ζ ζ ζ ζ ζ=>rfl) (λ ζ ζ ζ ζ=>rfl) (λ ζ ζ ζ ζ ζ=>rfl) (λ ζ ζ ζ ζ ζ=>rfl)
 (λ f a k p h=>eJ (λ f=>attributeBase (.Call f a k p) n env w=w) h av aq av aq av aq aq (λ ζ ζ ζ ζ ζ=>rfl) aq aU av (λ ζ ζ ζ ζ=>rfl) (λ ζ ζ ζ ζ=>rfl) (λ id q h=>by
   cases a with
   | nil=>cases k with
    | nil=>exact if_pos (by rw [h];rfl)
    | cons=>rfl
   | cons=>rfl) aU av aq) (λ ζ ζ ζ ζ ζ=>rfl) (λ ζ ζ ζ=>rfl) (λ ζ ζ ζ ζ=>rfl) (λ ζ ζ ζ ζ=>rfl) (λ ζ ζ ζ ζ=>rfl) (λ ζ ζ ζ=>rfl) (λ ζ ζ ζ=>rfl) (λ ζ ζ ζ ζ=>rfl) (λ ζ ζ ζ ζ ζ=>rfl)
def gX(m:Value)(s:Shared):Prop:=∃T id,s.TypeIs m T/\typeLookup (.type T) "__getitem__"=pure (some (.builtin id))
def pd{k g}{o i}{j}{Q E}(m:gX o s)(n:subscripted g false o i=operate j (getItem o i))(h:wpAny M0 A (getItem o i) Q E s):
 wpAny M0 A (do
  let r ←subscripted g (←getitemInPython o) o i
  letTemporaryGo k o r
  pure r) Q E s:=by
 refine m.elim λ T q=>q.elim λ id f=>af (af (wpAny_specialOf f.1 f.2 ?_));have b:wpAny M0 A (subscripted g false o i) (λ r a=>wpAny M0 A (letTemporaryGo k o r>>=λ ζ=>pure r) Q E a) E s:=n▸wpAny_operating (az h (λ r a e=>af (wpAny_letTemporaryGo (aD e))) λ ζ ζ x=>x)
 first
  | exact aD (af b)
  | exact af _
  | exact af b
def tA{m:Value}{mvs}{a}{T}(g:SeqAt s.heap a T mvs)(f:T= "list"∨T= "tuple"):gX (.ref a) s:=by
 obtain ⟨n,e⟩:=g
 rcases f with rfl | rfl
 ·exact {"list",_,⟨_,e,rfl⟩,slot_list_getitem.lookup}
 ·exact {"tuple",_,⟨_,e,rfl⟩,PySem.F.slot_tuple_getitem.lookup}
def E0{x}{t}:gX (.str x t) s:={"str",_,rfl,PySem.F.slot_str_getitem.lookup}
def L2{z I v}{a}(g:Gd Kf Pw σ c s.heap)(e:itemOf σ z I=some v)(r:Rp c s.heap z a):gX a s:=by
 refine aO e (λ e=>ab e λ l f ζ=>d6 (λ a=>gX a s) f r λ H h ζ i ζ=>tA (m:=.none) i (.inr rfl)) λ e=>
  aO e (λ e=>ab e λ l f ζ=>eG (λ a=>gX a s) f r λ H h ζ i ζ=>tA (m:=.none) i (.inl rfl)) λ e=>
  aO e (λ e=>ab e λ l f ζ=>bf (λ a=>gX a s) f r λ t=>E0) λ e=>
  aO e (λ e=>ab e λ x N e=>ab e λ d D ζ=>h_ (λ a=>gX a s) g r D λ b J B ζ=> ?_) λ e=>ab e λ l f e=>ab e λ P M e=>ab e λ o F ζ=>j5 (λ a=>gX a s) g r F λ b y=> ?_
 ·exact B.elim λ L q=>q.elim λ n j=>{"dict",_,⟨_,j.1,rfl⟩,slot_dict_getitem.lookup}
 ·cases o with
  | none=>exact y.elim λ n u=>{"dict",_,⟨_,u.1,rfl⟩,slot_dict_getitem.lookup}
  | some p=>obtain ⟨k,m,G,⟨n,C,_⟩,_⟩:=y;exact {"dict",_,⟨_,C,rfl⟩,slot_dict_getitem.lookup}
end
structure Ct where
 A:Around
 env:Env
 l:List Env
 d:Nat
 κ:List (Str×NameKind)
 Γ:List (Str×Nat)
 ow:Option Nat
 oa:Addr
 ρ:En
namespace Ct
abbrev prog(_:Ct):Program:=PR
noncomputable abbrev w(_:Ct):World:=W0
noncomputable abbrev Kf(_:Ct):Frag:=aL
def Hp(K:Ct)(σ:St)(c:Cx)(s:Shared):Prop:=Hyp K.Kf K.w.params K.A K.env K.l K.d K.κ K.Γ K.ow K.oa K.ρ σ c s.heap
def M(K:Ct):Model:=model K.prog K.w
end Ct
section
variable{K:Ct}{σ:St}{r:R V}{r1:R V}{rs:R (List V)}{p:Pr}
def yP{m}{k}{f}{c}{s:Shared}(g:Gd K.Kf K.w.params σ c s.heap)(e:qh m σ k=true)(r:Rep KA K.w.params c.ν c.H s.heap k f):
 s.TypeIs f (m4 m).1/\∀a,f= .ref a->∃i,s.heap.get? a=some i/\i.dict=none:=by
 have st:=λ h=>(nB.mp h).elim λ x o=>bf (λ f=>s.TypeIs f _/\∀a,f= .ref a->∃i,s.heap.get? a=some i/\i.dict=none) o r λ t=>{rfl,λ b q=>GM.noRef b q}
 cases m<;>first | exact st e | exact (λ j=>by
  refine (nB.mp j).elim λ d j=> ?_
  refine h_ (λ f=>s.TypeIs f "dict"/\∀a,f= .ref a->∃i,s.heap.get? a=some i/\i.dict=none) g r j λ a v ⟨y,n,l,_⟩ _=>{⟨_,l,rfl⟩,λ b q=>by simp_all}) e
def r0{es}{env}{pos}(h:es.all noStar=true):(backTo pos (starEach es env)).all (λ x=> !x.1)=true:=by
 have:=a6.yh (env:=env) h (pos:=pos);rw [gy];intro x a;rw [List.any_eq_false] at this;exact bi_not.mpr (this x a)
end
noncomputable def mq(l u t:Value):Obj:={cls:=.type "slice",data:=.fields #[l,u,t]}
section
variable{A:Around}{s:Shared}{c:Cx}{σ:St}{env:Env}{E Q:VP}
def jU{k}{lo hi st}{p pos}
 (h:wpAny M0 A (eval k env) (λ o s₁=>wpAny M0 A (evalPart lo env) (λ l d=>wpAny M0 A (evalPart hi env) (λ u f=>wpAny M0 A (evalPart st env) (λ t a=>
   gX o {a with heap:=a.heap.push (mq l u t)}/\wpAny M0 A (getItem o (.ref a.heap.objs.size)) Q E {a with heap:=a.heap.push (mq l u t)}) E f) E d) E s₁) E s):
 wpAny M0 A (eval (.Subscript k (.Slice lo hi st p) pos) env) Q E s:=by
 refine af (az h (λ o s₁ g=>af (i1 (wpAny_Slice (az g (λ l d i=>az i (λ u f j=>az j (λ t a b=>af (eM ?_)) λ ζ ζ x=>x) λ ζ ζ x=>x) λ ζ ζ x=>x)))) λ ζ ζ x=>x);cases st with
 | none=>exact pd b.1 rfl b.2
 | some e=>exact pd b.1 rfl b.2
variable{P:Params}{ν H:List Addr}{h:Heap}{vs:List V}{mvs:List Value}
def aj.lt(r:aj KA P ν H h vs mvs)(i:Nat):(∃v m,vs[i]? =some v/\mvs[i]? =some m/\Rep KA P ν H h v m)∨(vs[i]? =none/\mvs[i]? =none):=by
 cases q:vs[i]? with
 | some v=>exact (r.get q).elim λ m a=> .inl ⟨v,m,rfl,a.1,a.2⟩
 | none=>
  refine .inr {rfl,?_};rw [List.getElem?_eq_none_iff] at q ⊢;rw [r.length];exact q
def aj.pick(r:aj KA P ν H h vs mvs)(L:List Nat):aj KA P ν H h (L.filterMap (vs[·]?)) (L.filterMap (mvs[·]?)):=by
 induction L with
 | nil=>exact rfl
 | cons i L d=>
  rcases r.lt i with ⟨v,m,a,b,e⟩ | ⟨a,b⟩
  ·simp [LV a,LV b];exact ⟨m,_,rfl,e,d⟩
  ·simp [List.filterMap_cons_none a,List.filterMap_cons_none b];exact d
def uh(mvs)(lo hi st):slicePick mvs.toArray lo hi st=(dU lo hi st mvs).toArray:=by
 unfold slicePick dU yz;simp
variable{a:Addr}
def yU{l u t}{lo hi st}(f:c.ok)(j:∀b∈c.H,b<s.heap.objs.size)(x:SeqAt s.heap a "list" mvs)(d:cy c s.heap vs mvs)(n:vs.length<=1000000)(p:IsPart l lo)(v:IsPart u hi)(r:IsPart t st)(i:st≠some 0)
 (k:∀m s',PK s s'->Rp c s'.heap (.lst (dU lo hi st vs)) m->Q m s'):
 wpAny M0 A (getItem (.ref a) (.ref s.heap.objs.size)) Q E {s with heap:=s.heap.push (mq l u t)}:=by
 have g:PK s {s with heap:=s.heap.push (mq l u t)}:=.push s _ _;have e:SeqAt (s.heap.push (mq l u t)) a _ mvs:=⟨_,b9 _ x.choose_spec⟩;refine wpAny_getItem_list_slice e.isList (Heap.IsSliceOf.new ..) p v r i ?_ (by rw [e7,d.length];exact dd n);rw [uh];exact (kH ((by unfold dU;rw [d.length]:List.filterMap _ _=dU lo hi st mvs)▸(g.bN f d).pick _) f λ b o=>by simp [xo];exact Bl (j b o)).elim λ y q=>q.elim λ z B=>k _ _ (g.trans (.push _ _ _)) ⟨_,_,rfl,z,y,B⟩
def str_slice{x}{f}{l u}(k:∀m s',PK s s'->Rp c s'.heap (.str (rL (l.map (·.1)) (u.map (·.1)) x)) m->Q m s')(d:x.length<=cY):
 wpAny M0 A (getItem (.str x f) (.ref s.heap.objs.size)) Q E {s with heap:=s.heap.push (mq (partValue l) (partValue u) .none)}:=by
 have b:∀t,PK s {s with heap:=s.heap.push (mq (partValue l) (partValue u) .none),toks:=t}:=λ t=> .push s _ t;refine wpAny_getItem_str_slice (st:=none) ⟨_,dW _ rfl,rfl,rfl⟩ rfl ?_;unfold sliceMade;have e:(Option.map (λ x=>x.1) (none:Option (Int×Tok))).getD 1=1:=rfl;unfold rL yy at k;unfold slicePicked;rw [e];rw [ff,Bool.true_and]
 split
 ·rename_i h;rw [if_pos h] at k;exact k _ _ (b _) ⟨_,rfl⟩
 ·rename_i h;rw [if_neg h] at k;refine {ag (List.length_filterMap_le _ _) (ag (sliceRange_length_le _ _ _ _ (λ ζ=> ?_) λ q=>absurd (by simp) q) (ag d cN)),k _ _ (b _) ⟨_,rfl⟩}
  constructor
  ·cases l with
   | none=>simp
   | some i=>simp [Option.map_some];exact Int.le_max_left 0 _
  ·cases u with
   | none=>simp
   | some i=>simp [Option.map_some];exact Int.max_le.mpr {xr _,Int.min_le_right ..}
def CB(b n:Nat):Builtin.Slice.sliceAdjust none (some (b:Int)) 1 (n:Int)=(0,((min b n:Nat):Int)):=by
 unfold Builtin.Slice.sliceAdjust;simp [Int.not_lt.mpr (xr b)];exact (Lean.Omega.Int.ofNat_min b n).symm
def z8(m:Nat):Builtin.Slice.slicePlaces 0 (m:Int) 1=m:=by
 unfold Builtin.Slice.slicePlaces;simp [if_true]
 split<;>lia
variable{sl:Addr}{b:Nat}{u:Tok}
def pV{n:Nat}{Q}(f:s.heap.IsSliceOf sl .none (.int b u) .none)(h:Q (0,1,min b n) s):
 wpAny M0 A (Builtin.Slice.sliceApplied (.ref sl) (pure (n:Int))) Q E s:=by
 refine (id f).elim λ os d=>af (af (ql d.1 d.2.2 (x:=.none) rfl (af (ql d.1 d.2.2 (x:=.int b u) rfl (af (ql d.1 d.2.2 (x:=.none) rfl (aD (af (slicePart_none (af (slicePart_none (af (slicePart_int (af (aD ?_)))))))))))))));refine (?_:wpAny _ _ (match Builtin.Slice.sliceAdjust none (some _) 1 _ with | (lo,e)=>pure (lo,(1:Int),Builtin.Slice.slicePlaces lo e 1)) _ _ s);rw [CB b n];show wpAny _ _ (pure _) _ _ s;rw [z8];exact aD h
variable{α:Type}
def wM(d:List α)(m)(h:m<=d.length):((List.range m).filterMap λ (k:Nat)=>d[((0:Int)+(k:Int)*1).toNat]?)=d.take m:=by
 induction m with
 | zero=>simp
 | succ n f=>
  simp only [List.range_succ,List.filterMap_append,f (kS h)];have e:n<d.length:=h;simp [e]
def pJ{t}{d}(f:IsTup s.heap t d)(j:s.heap.IsSliceOf sl .none (.int b u) .none)
 (k:d.size<=b->Q (.ref t) s) (l:Q (.ref s.heap.objs.size) {s with heap:=s.heap.push {cls:=.type "tuple",data:=.seq (d.toList.take (min b d.size)).toArray}})
 (hsz:d.size<=sizeLine):wpAny M0 A (getItem (.ref t) (.ref sl)) Q E s:=by
 refine (id j).elim λ os g=> ?_;unfold getItem
 try with_reducible refine i1 ?_
 refine af (wpAny_sequenceKey f.typeIs rfl (af (wpAny_callSpecial?_slot f.typeIs slot_tuple_getitem
  (wpAny_call_entry slot_tuple_getitem f.typeIs entry_tuple_getitem (?_:wpAny _ _ (Builtin.Tuple.tupleItemsOf _>>=_) _ _ s) (args_tuple_getitem _ _)))))
 refine af (tupleItemsOf_ f (af (wpAny_typeOf ⟨os,g.1,g.2.1⟩ (af (pV j (?_:wpAny _ _ (if (0==0 && 1==1 && min b _==d.size)=true then _ else _) _ _ s))))));by_cases i:d.size<=b
 ·rw [if_pos (by simp_all)];refine af (af (wpAny_typeOf f.typeIs (aD ?_)))
  first
   | exact af _
   | exact af _
   | exact af (af (wpAny_rule (aD (aD {_,rfl,aD (k i)}))))
   | exact af _
 ·rw [if_neg (by
   have:min b d.size≠d.size:=λ e=>i (ag (b1 e.symm) (Nat.min_le_left ..))
   simp [this])]
  rw [(by
   rw [←wM d.toList (min b d.size) (Nat.min_le_right ..)]
   simp:((List.range _).filterMap _).toArray=(d.toList.take (min b d.size)).toArray)]
  first
   | exact af _
   | exact af (oZ (af (aD (aD {_,rfl,aD l}))) (by
  show (d.toList.take _).toArray.size<=sizeLine;simp only [e7,Bf,Array.length_toList]
  exact ag (Nat.min_le_right ..) hsz))
   | exact af _
   | exact af _
def take_range(d:List α)(b:Nat):(List.range (min b d.length)).filterMap (d[·]?)=d.take b:=by
 have e:=wM d (min b _) (Nat.min_le_right ..);rw [(by simp:(λ (k:Nat)=>d[(0+(k:Int)*1).toNat]?)=λ k=>d[k]?)] at e;rw [e,←List.take_take,List.take_length]
def zF{j:Tok}(i:c.ok)(n:∀b∈c.H,b<s.heap.objs.size)(r:a∉c.H)(t:SeqAt s.heap a "tuple" mvs)(g:cy c s.heap vs mvs)(p:vs.length<=1000000)
 (k:∀m s',PK s s'->Rp c s'.heap (.tup (vs.take b)) m->Q m s'):
 wpAny M0 A (getItem (.ref a) (.ref s.heap.objs.size)) Q E {s with heap:=s.heap.push (mq .none (.int b j) .none)}:=by
 have f:PK s {s with heap:=s.heap.push (mq .none (.int b j) .none)}:=.push s _ _;have d:SeqAt (s.heap.push (mq .none (.int b j) .none)) a _ mvs:=⟨_,b9 _ t.choose_spec⟩;have l:mvs.toArray.size=vs.length:=by rw [e7,g.length]
 refine pJ d.isTup (Heap.IsSliceOf.new ..) (λ o=> ?_) ?_ (by rw [l];exact dd p)
 ·refine k _ _ f ?_;rw [List.take_of_length_le (l▸o)];exact {a,mvs,rfl,r,d,f.bN i g}
 ·refine (kH (T:="tuple") (by
   have:=(f.bN i g).pick (List.range (min b vs.length));rw [take_range vs b,←g.length,take_range mvs b] at this
   exact this) i λ x q=>by rw [xo];exact Bl (n x q)).elim λ v e=> ?_
  rw [(by rw [e7,←List.take_take,List.take_length]:mvs.toArray.toList.take _=mvs.take b)];exact k _ _ (f.trans (.push _ _ _)) ⟨_,_,rfl,e.1,v,e.2⟩
def aj.three{K:iO}{a b d:Value}(r:aj K P ν H h vs [a,b,d]):∃g i j,vs= [g,i,j]/\Rep K P ν H h g a/\Rep K P ν H h i b/\Rep K P ν H h j d:=r.zj.elim λ g q=>q.elim λ l f=>f.2.2.two.elim λ i q=>q.elim λ j e=>{g,i,j,by rw [f.1,e.1],f.2.1,e.2.1,e.2.2}
end
section
variable{K:Ct}{σ:St}{r:R V}{rs:R (List V)}{c c₁:Cx}{s TB:Shared}{TA:St}{v1 v2 v3 v:V}{o l u t:Value}{p:Pr}
end
def vK:Slot "Exception" "__getattribute__" "BaseException.__getattribute__":=
 .of (owner:="BaseException") (n:="__getattribute__") rfl rfl rfl rfl
  ⋯ rfl
def EE:builtinKind "BaseException.__getattribute__"=some .slot:=⋯
def Cu:splitId "BaseException.__getattribute__"=some ("BaseException","__getattribute__"):=⋯
noncomputable def F8(K:Frag)(n:Str):Bool:=
 (findIn K (.ref 64) n==some none) && (findIn K (.ref 64) "__getattribute__"==some (some (.builtin "BaseException.__getattribute__"))) && (findIn K (.ref 64) "__getattr__"==some none) && (clsIn K 64).any (·.hasDict) && (subIn K (.ref 64) (.type "BaseException")==some true)
section
variable{A:Around}{s:Shared}{c:Cx}{σ:St}{env:Env}{E Q:VP}{n:Str}
def wb{x d}{C}{sl}{ks}{mvs}{m}{a}(X:Kf.In s.heap)(b:F8 Kf n=true)(y:s.heap.get? x=some {.ref 64,some d,.fields C,sl})
 (l:DictAt Pw s.heap d ks mvs) (p:m6 ks mvs n=some m) (u:handedIn m=true) (k:Q m {s with toks:=s.toks+1}):wpAny M0 A (getAttr (.ref x) n a) Q E s:=by
 obtain ⟨G,H,o,r,_⟩:=l;refine (any_some (an (an b).1).2).elim λ D e=> ?_;have I:InstAt _ x _ 64 (some _):=⟨y,rfl,rfl,o⟩;obtain ⟨i,g,h,t,os⟩:=s;have f:=I.type (M:=M0);refine af (wpAny_mkText (i1 (af (f.at (af ((looks_findIn X (bq (an (an (an (an b).1).1).1).2)).at (af ((looks_findIn X (bq (an (an (an b).1).1).2)).at (af (wpAny_attempt (i1 ?_)))))))))))
 rw [(by
  cases a<;>rfl:callGetattribute _ _ _ _=boundAndCalled _ _ _)]
 refine af (oX (vK.bind _) (az (Q:=λ v j=>v=m/\j={i,g,h,t+1,os}) (E:=λ ζ ζ=>False) ?_ (λ v j B=> ?_) λ ζ ζ z=>z.elim))
 ·exact su (codeAny_call_builtin vK.plain F.entry_bexc_ga ((λ {A E Q} q=> @check_slot _ A E {i,g,h,t+1,os} _ _ _ _ [.str n t] [] Q EE Cu (f.andThen (looks_subIn X (bq (an b).2))) (F.args_bexc_ga _ _) q) (af (oX rfl (af (oX rfl (af (f.at (af ((looks_find X I (by
  unfold findObj;simp only [e.1];rw [Option.bind_some,bq (an (an (an (an b).1).1).1).1];unfold W.ownOf;rw [e.2]
  simp only [if_true,lX n r,p,Option.bind_some]:findObj Kf 64 _ n=some (.value m))).at (aD ⟨rfl,rfl⟩)))))))))))
 ·obtain ⟨rfl,rfl⟩:=B;exact ((handedOut_of u▸aD k):wpAny _ _ (handedOut v) _ _ _)
def sZ{v}{pos}{E Q}(e:baseOk v=true)(h:wpAny M0 A (eval v env) (λ o s₁=>wpAny M0 A (getAttr o n true) Q E s₁) E s):
 wpAny M0 A (eval (.Attribute v n pos) env) Q E s:=by
 rw [arm_eval_Attribute,cD e];refine af (az h (λ o s₁ a=>af (eM (af (i1 (az a (λ r d b=>af (wpAny_letTemporaryGo (aD b))) λ ζ ζ x=>x))))) λ ζ ζ x=>x)
end
def bu(Kf:Frag)(n:Str):Bool:=attrOk Kf 322 n && attrOk Kf 606 n && F8 Kf n
section
variable{K:Ct}{σ:St}{r:R V}{r1:R V}{rs:R (List V)}{A:Around}{s:Shared}{c:Cx}{E:VP}{n:Str}{v1:V}{m1:Value}
def rR{Q}{v}{j}(g:Gd Kf Pw σ c s.heap)(B:bu Kf n=true)(f:fw σ n v1=some v)(y:Rp c s.heap v1 m1)
 (k:∀m t,Rp c s.heap v m->Q m {s with toks:=t}):wpAny M0 A (getAttr m1 n j) Q E s:=by
 refine aO f (λ f=>ab f λ i M f=>ab f λ o l f=>ab f λ q S f=>iq (λ m1=>wpAny _ A (getAttr m1 n _) Q E s) M y λ a D=> ?_) λ f=>ab f λ e L b=> ?_
 ·exact (g.at D l).elim λ ζ q=>q.elim λ ζ F=>(F.ins S).elim λ C q=>q.elim λ ζ q=>q.elim λ l q=>q.elim λ T p=>(lZ p.2 f).elim λ m q=>q.elim λ N G=>vi g.bC (C.elim (λ e=>e▸(an (an B).1).1) λ e=>e▸(an (an B).1).2) l p.1 N G.handed (k m _ G)
 ·cases V.Mn L;have y:n8 _ _ _ _ _ _ _ _:=y;cases y with
  | mk a d ws Z t u F U tb W l J=>
  have z:∀{x} {m},some x=some v->m6 ["why","at","row","column"] [.str e.1 t,.int (-1) u,.int e.2.1 F,.int e.2.2 U] n=some m->(∀h,Rep KA _ _ c.H h x m)->handedIn m=true->wpAny _ A (getAttr _ n j) Q E s:=λ H I q P=>by
   cases H;exact wb g.bC (an B).2 l J I P (k _ _ (q _))
  unfold xC at b;by_cases q:n= "why"
  ·have b:=if_pos q▸b;exact z b (by rw [q];rfl) (λ ζ=>⟨_,rfl⟩) rfl
  have b:=if_neg q▸b;by_cases q:n= "row"
  ·rw [if_pos q] at b;exact z b (by simp [q];rfl) (λ ζ=>⟨_,rfl⟩) rfl
  have b:=if_neg q▸b;by_cases q:n= "column"
  ·rw [if_pos q] at b;exact z b (by simp [q];rfl) (λ ζ=>⟨_,rfl⟩) rfl
  have b:=if_neg q▸b
  contradiction
noncomputable def uM(Kf:Frag)(n:Str)(f:Addr):Bool:=
 (findIn Kf (.ref 322) "__getattribute__"==some (some (.builtin "object.__getattribute__"))) && (findIn Kf (.ref 322) "__getattr__"==some none) && (findIn Kf (.ref 322) n==some (some (.ref f))) && (typeIn Kf (.ref f)==some (.type "function"))
def DO{f}{p}{Q}(g:Gd Kf Pw σ c s.heap)(e:uM Kf n f=true)(hi:nE σ v1 n=true)(x:Rp c s.heap v1 m1)
 (k:Q (.ref f,[m1]) s):wpAny M0 A (getMethod m1 n p) Q E s:=by
 cases d:ae _ _ with
 | none=>unfold nE at hi;have hi:=d▸hi;contradiction
 | some b=>
  unfold nE at hi;rw [d] at hi;subst hi;refine ab d λ i hi d=>ab d λ o j d=>ab d λ q d h=>iq (λ m1=>Q (.ref f,[m1]) s->wpAny _ A (getMethod m1 n p) Q E s) hi x (λ a l k=> ?_) k;obtain ⟨_,_,m⟩:=g.at l j;obtain ⟨_,_,j,v,⟨y,z,t,u,_⟩,m⟩:=m.ins d;rw [bq (an (ar h)).1] at j;refine method_fn g.bC (⟨j,rfl,rfl,t⟩:InstAt _ a _ 322 (some _)) (bq (an (an (an e).1).1).1) (bq (an (an (an e).1).1).2) (bq (an (an e).1).2) (bq (an e).2) (?_:(lookIn n _).map _=_) k;rw [lX n u,pG m (sH.mp (an (ar h)).2)];rfl
end
section
structure dE(c:Cx)(h h':Heap)(b:Addr):Prop where
 gW:b∈c.H
 nS:b∉c.S
 bx:∀a,a≠b->h'.get? a=h.get? a
 here:∃o,h'.get? b=some o
variable{c:Cx}{h h':Heap}{b:Addr}
def dE.there(u:dE c h h' b):∀a o,h.get? a=some o->∃o',h'.get? a=some o':=λ a o e=>by
 by_cases q:a=b
 ·subst q;exact u.here
 ·exact {o,u.bx a q▸e}
def dE.tr(u:dE c h h' b):Tr KA c.ν c.H h c.ν c.H h':=.same (λ ζ ζ e=>e) λ a o e n=>{n,(u.bx a λ q=>n (q▸u.gW)).trans e}
variable{P:Params}{v:V}{m:Value}
def Rep.off(a:c.ok)(u:dE c h h' b)(r:Rep KA P c.ν c.H h v m):Rep KA P c.ν c.H h' v m:=u.tr.rep r
def aj.off(a:c.ok)(u:dE c h h' b){v}{m}(r:aj KA P c.ν c.H h v m):aj KA P c.ν c.H h' v m:=u.tr.bN r
variable{a d:Addr}
def aS.off(i:c.ok)(u:dE c h h' b){o}(f:a∈c.S)(g:d∈c.S)(r:aS P c h a d o):aS P c h' a d o:=r.tr u.tr (λ ζ e=>(u.bx a λ q=>u.nS (q▸f)).trans e) λ ζ e=>(u.bx d λ q=>u.nS (q▸g)).trans e
variable{σ:St}
def Gd.off(g:Gd Kf P σ c h)(u:dE c h h' b):Gd Kf P σ c h':=by
 refine {g.ok,λ a o e=> ?_,g.gS,λ a m=> ?_,g.ln,g.lm,g.cF,λ i o a d k f j=>(g.obj i o a d k f j).off g.ok u (Cx.memν f) (Cx.memμ j),g.apart}
 ·rw [u.bx a λ q=>by rw [q,g.gS b u.gW] at e;contradiction];exact g.bC a o e
 ·by_cases q:a=b
  ·subst q;exact u.here
  ·exact u.bx a q▸g.low a m
structure Kp(D:List Addr)(c:Cx)(h:Heap)(c':Cx)(h':Heap):Prop where
 keep:∀(b:Addr) (o:Obj),h.get? b=some o->b∉c.S->b∉c.Fs->(b∈D->b∉c.H)->∃o',h'.get? b=some o'/\ik KA (b∈c.H) c' h' o o'
 there:∀(b:Addr) (o:Obj),h.get? b=some o->∃o',h'.get? b=some o'
 iG:∀a∈c'.S,a∈c.S∨h.get? a=none
 jN:∀a∈c'.Fs,a∈c.Fs∨h.get? a=none
 avoid:∀a∈c'.H,a∈c.H∨h.get? a=none
 bz:∀a∈c.H,a∈c'.H
 grow:∀(i:Nat) (a:Addr),c.ν[i]? =some a->c'.ν[i]? =some a
theorem Kp.refl(D)(c)(h):Kp D c h c h:={λ b o e ζ ζ ζ=>{o,e,.refl o},λ b o e=>⟨o,e⟩,λ ζ m=> .inl m,λ ζ m=> .inl m,λ ζ m=> .inl m,λ ζ m=>m,λ ζ ζ e=>e}
variable{c':Cx}
def aN.kp{D}(st:aN KA c h c' h'):Kp D c h c' h':={λ b o e n f ζ=>st.keep b o e n f,st.there,st.iG,st.jN,st.avoid,st.bz,st.grow}
def Kp.none_of{D}(x:Kp D c h c' h')(z:h'.get? a=none):h.get? a=none:=by
 cases q:h.get? a with
 | none=>rfl
 | some o=>refine (x.there a o q).elim λ f e=> ?_;rw [z] at e;contradiction
variable{o:Obj}
def Kp.gQ{D}(x:Kp D c h c' h')(e:h.get? a=some o)(n:a∉c.S):a∉c'.S:=λ m=>by
 rcases x.iG a m with z | z
 ·exact n z
 ·lia
def Kp.jA{D}(x:Kp D c h c' h')(e:h.get? a=some o)(n:a∉c.Fs):a∉c'.Fs:=λ m=>by
 rcases x.jN a m with z | z
 ·exact n z
 ·lia
def Kp.yK{D}(x:Kp D c h c' h')(e:h.get? a=some o)(n:a∉c.H):a∉c'.H:=λ m=>by
 rcases x.avoid a m with z | z
 ·exact n z
 ·lia
def Kp.tb{D}(x:Kp D c h c' h'){v}(z:fS c h v):fS c' h' v:=
 gE.of z λ ζ o e b=>{{x.yK e b.1,x.gQ e b.2.1,x.jA e b.2.2},(x.keep _ o e b.2.1 b.2.2 λ ζ=>b.1).imp λ ζ z=>⟨z.1,z.2.s⟩}
def Kp.trans{D s}{g j}{k l}(x:Kp D c h g k)(y:Kp s g k j l)(A:∀a∈s,a∈D∨h.get? a=none):Kp D c h j l:=by
 refine {λ b o e n f d=> ?_,λ b o e=> ?_,λ a m=> ?_,λ a m=> ?_,λ a m=> ?_,λ a m=>y.bz _ (x.bz _ m),λ i a e=>y.grow _ _ (x.grow _ _ e)}
 ·exact (x.keep b o e n f d).elim λ q t=>(y.keep b q t.1 (x.gQ e n) (x.jA e f) λ m=>by
   rcases A _ m with z | z
   ·exact x.yK e (d z)
   ·lia).elim λ r p=>{r,p.1,t.2.trans p.2 (x.bz _) λ v z=>y.tb z}
 ·exact (x.there b o e).elim λ q u=>y.there b q u
 ·rcases y.iG a m with z | z
  ·exact x.iG a z
  ·exact .inr (x.none_of z)
 ·rcases y.jN a m with z | z
  ·exact x.jN a z
  ·exact .inr (x.none_of z)
 ·rcases y.avoid a m with z | z
  ·exact x.avoid a z
  ·exact .inr (x.none_of z)
def Kp.tr{D}(f:c.ok)(x:Kp D c h c' h'):Tr KA c.ν c.H h c'.ν c'.H h':={x.grow,λ b o e n=>{x.yK e n,(x.keep b o e (f.no n) (f.cF n) λ ζ=>n).imp λ ζ z=>{z.1,z.2.s.to λ ζ=>fS.h}}}
def Kp.rep{D}(e:c.ok)(x:Kp D c h c' h')(f:∀a∈D,a∈c.H)(r:Rep KA P c.ν c.H h v m):Rep KA P c'.ν c'.H h' v m:=(x.tr e).rep r
def Kp.bN{D}(e:c.ok)(x:Kp D c h c' h')(f:∀a∈D,a∈c.H){v}{m}(r:aj KA P c.ν c.H h v m):aj KA P c'.ν c'.H h' v m:=(x.tr e).bN r
def dE.kp{D}(u:dE c h h' b)(f:b∈D):Kp D c h c h':=
 {λ a o e ζ ζ d=>{o,(u.bx a λ q=>d (q▸f) (q▸u.gW))▸e,.refl o},λ a o e=>by
  by_cases q:a=b
  ·subst q;exact u.here
  ·exact {o,u.bx a q▸e},λ ζ m=> .inl m,λ ζ m=> .inl m,λ ζ m=> .inl m,λ ζ m=>m,λ ζ ζ e=>e}
noncomputable def Ct.cs(K:Ct):List Addr:=K.env.cells.filterMap λ p=>K.env.cells.lookup p.1
def Ct.D(K:Ct)(e:Bool):List Addr:=if e then K.env.locals::K.oa::K.cs else [K.env.locals]
variable{K:Ct}{x:Str}{cc:Addr}
def Ct.MJ(e:K.env.cells.lookup x=some cc):cc∈K.cs:=xu.mpr {(x,cc),mem_of_lookup e,e}
def Ct.Ts(m:cc∈K.cs):∃x,K.env.cells.lookup x=some cc:=(xu.mp m).elim λ p e=>⟨p.1,e.2⟩
variable{fl:Bool}
def Ct.zv:K.env.locals∈K.D fl:=by unfold Ct.D;cases fl<;>simp
def Ct.lu(f:fl=true)(e:K.env.cells.lookup x=some cc):cc∈K.D fl:=by subst f;simp [Ct.D,Ct.MJ e]
def Ct.zu(e:fl=true):K.oa∈K.D fl:=by subst e;simp [Ct.D]
def Cx.back(c:Cx)(e:Cx):Cx:={c.ν,c.μ,e.Fs,e.H++c.S}
variable{c₀:Cx}{h₀:Heap}
def Cx.fv(e:c.ok)(st:aN KA c₀ h₀ c h):∀a∈(c.back c₀).H,a∈c.H:=λ a m=>by
 rcases e6.mp m with m | m
 ·exact st.bz a m
 ·exact e.s a m
def aS.mono{o}(f:c'.ν=c.ν)(g:∀a∈c'.H,a∈c.H)(r:aS P c h a d o):aS P c' h a d o:=r.tr (.same (λ ζ ζ e=>f▸e) λ ζ ζ e n=>{λ m=>n (g _ m),e}) (λ ζ e=>e) λ ζ e=>e
def Gd.back(g:Gd Kf P σ c h)(e:c₀.ok)(st:aN KA c₀ h₀ c h)(lo:∀a∈c₀.Fs,a∈c.Fs):Gd Kf P σ (c.back c₀) h:=by
 have sub:=Cx.fv g.ok st;refine {{λ a m=>sJ _ m,λ a m=>sI _ (e.f a m)},g.bC,λ a m=>g.gS a (sub a m),λ a m=>g.low a (sub a m),g.ln,g.lm,λ a m q=>g.cF a m (lo a q),λ i o a d f j k=>aS.mono (c:=c) rfl sub (g.obj i o a d f j k),g.apart}
def aN.back(g:c₀.ok)(st:aN KA c₀ h₀ c h):aN KA c₀ h₀ (c.back c₀) h:=
 {λ b o e n f=>(st.keep b o e n f).imp λ ζ z=>{z.1,z.2.to λ v z=>gE.to z λ T b=>{λ m=>(e6.mp m).elim (λ m=>b.1 (st.bz _ m)) b.2.1,b.2.1,λ m=>b.1 (st.bz _ (g.f _ m))}},st.o7,st.there,st.iG,λ a m=> .inl m,λ a m=>by
  rcases e6.mp m with m | m
  ·exact .inl m
  ·rcases st.iG a m with z | z
   ·exact .inl (g.s a z)
   ·exact .inr z,λ a m=>sI _ m,st.grow,st.nG}
structure Inv(K:Ct)(fl:Bool)(Fs:List Addr)(c₀:Cx)(s₀:Shared)(σ:St)(c:Cx)(s:Shared):Prop where
 h:K.Hp σ c s
 st:aN KA c₀ s₀.heap c s.heap
 gens:s.gens=s₀.gens
 os:s.os=s₀.os
 ok₀:c₀.ok
 fs:c.Fs=Fs
 sub:∀a∈c₀.Fs,a∈Fs
 dl:s₀.heap.get? K.env.locals=none/\K.env.locals∈c.H
 qE:fl=true->∀x cc,K.env.cells.lookup x=some cc->K.env.kindOf x=some .cell->s₀.heap.get? cc=none/\cc∈c.H/\cc∉c.Fs/\cc∉c.S/\∃z,s.heap.IsCell cc z
 xS:fl=true->∀x,K.env.kindOf x=some .cell->(K.env.cells.lookup x).isSome=true
 cl:∀x cc,K.env.cells.lookup x=some cc->cc≠K.env.locals
 xT:fl=true->∀x y cc,K.env.cells.lookup x=some cc->K.env.cells.lookup y=some cc->x=y
 px:∀i,K.ow=some i->(ay K.ρ i).isSome=true->K.oa≠K.env.locals
 own:fl=true->∀i,K.ow=some i->(ay K.ρ i).isSome=true->s₀.heap.get? K.oa=none/\∀y cc,K.env.cells.lookup y=some cc->K.oa≠cc
 dh:∀a∈K.D fl,a∈c.H/\a∉c.S
 low₀:∀a∈c₀.H,∃o,s₀.heap.get? a=some o
section
variable{K:Ct}{fl:Bool}{Fs:List Addr}{c₀ c:Cx}{s₀ s:Shared}{σ:St}
def Inv.next{c'}{s'}{σ'}(I:Inv K fl Fs c₀ s₀ σ c s)(p:bc K.Kf K.w.params c s σ' c' s'):Inv K fl Fs c₀ s₀ σ' c' s':=
 {Hyp.next I.h p,I.st.trans p.st (I.fs▸I.sub),p.gens.trans I.gens,p.os.trans I.os,I.ok₀,p.fs.trans I.fs,I.sub,{I.dl.1,p.st.bz _ I.dl.2},
  λ f x cc i j=>by
   obtain ⟨a,b,d,e,z,k⟩:=I.qE f x cc i j
   exact (I.h.g.low cc b).elim λ o g=>{a,p.st.bz _ b,p.st.jA g d,p.st.gQ g e,z,Heap.IsCell.ug p.st e d k},I.xS,I.cl,I.xT,I.px,I.own,λ a m=>{p.st.bz _ (I.dh a m).1,(I.h.g.low a (I.dh a m).1).elim λ o g=>p.st.gQ g (I.dh a m).2},I.low₀}
theorem Inv.toks{t}(I:Inv K fl Fs c₀ s₀ σ c s):Inv K fl Fs c₀ s₀ σ c {s with toks:=t}:=I.next (.toks I.h.g)
variable{h h':Heap}{b:Addr}
def dE.tb{c}(u:dE c h h' b){v}(z:fS c h v):fS c h' v:=gE.of (K:=KA) (X:=λ ζ=>False) z λ T o e b=>{b,o,(u.bx T λ q=>b.1 (q▸u.gW)).trans e,.same}
def aN.off{c₀ c}{h₀}(st:aN KA c₀ h₀ c h)(u:dE c h h' b)(j:h₀.get? b=none):aN KA c₀ h₀ c h':={λ a o e n f=>u.bx a (λ a o e q=>by lia a o e)▸(st.keep a o e n f).elim λ i g=>{i,g.1,g.2.to λ v z=>u.tb z},λ a o e n f=>u.bx a (λ a o e q=>by lia a o e)▸st.o7 a o e n f,λ a o e=>(u.bx a (λ a o e q=>by lia a o e)).symm▸st.there a o e,st.iG,st.jN,st.avoid,st.bz,st.grow,st.nG}
def cO.off{c}{l}(F:cO h c l)(f:∀a,a≠b->h'.get? a=h.get? a)(g:∃o,h'.get? b=some o/\(b∈c.Fs->x4 o)):cO h' c l:=F.to λ L o m n e=>{m,n,by
 by_cases q:L=b
 ·subst q;exact g.imp λ i z=>{z.1,λ ζ=>z.2 m}
 ·exact {o,(f L q).trans e,id}}
def me{ρ}{i j}{v w}(e:ay (ρ.set i (some v)) j=some w):(j=i/\w=v)∨(j≠i/\ay ρ j=some w):=by
 unfold ay at e ⊢;by_cases q:j=i
 ·subst q;by_cases f:j<ρ.length
  ·rw [qs f] at e;exact .inl {rfl,ar e.symm}
  ·rw [FY (by simp_all)] at e;exact aQ e
 ·rw [ny (Ne.symm q)] at e;exact .inr ⟨q,e⟩
end
end
noncomputable def injΓ(a:List (Str×Nat)):Bool:=decide ((a.map (·.2)).Nodup)
def injΓ_of:∀{a},injΓ a=true->∀x y i,a.lookup x=some i->a.lookup y=some i->x=y:=λ {a} h x y i b c=>by
 simp [injΓ] at h
 induction a with
 | nil=>contradiction
 | cons p a k=>
  obtain ⟨n,j⟩:=p;rw [A5,nh] at h;have d:∀{z},a.lookup z=some i->i∈a.map (·.2):=λ {z} g=>i0.mpr {_,mem_of_lookup g,rfl};simp [kQ] at b c;cases e:x==n<;>cases f:y==n<;>simp only [e,f] at b c
  ·exact k b c h.2
  ·cases c;exact absurd (d b) h.1
  ·cases b;exact absurd (d c) h.1
  ·exact (uW.mp e).trans (uW.mp f).symm
noncomputable def cA(a:List (Str×NameKind))(b:Bool)(x:Str):Bool:=a.lookup x==some .local || (b && a.lookup x==some .cell)
def jg{a}{b}{x}(h:cA a b x=true):a.lookup x=some .local∨(b=true/\a.lookup x=some .cell):=orr h (λ h=> .inl (bq h)) λ h=> .inr {(an h).1,bq (an h).2}
noncomputable def freeOf(a:Option Nat)(l:List Nat):Bool:=match a with
 | none=>true
 | some i=> !l.contains i
def iH{a}{l}{i}(h:freeOf a l=true)(m:i∈l):a≠some i:=λ q=>by
 subst q;cases (Bu.mpr m).symm.trans (nt h)
def qy{a}{l l'}(h:freeOf a l=true)(m:∀i∈l',i∈l):freeOf a l'=true:=by
 cases a with
 | none=>rfl
 | some j=>
  cases q:l'.contains j with
  | false=>show (!l'.contains j)=true;rw [q];rfl
  | true=>cases (Bu.mpr (m j (Bu.mp q))).symm.trans (nt h)
def fN{env}{es}(h:es.all noStar=true):(assignEach es env).map (·.2)=es.map (λ e=>assign e env)/\(assignEach es env).length=es.length/\(assignEach es env).findIdx? (·.1)=none:=by
 induction es with
 | nil=>exact ⟨rfl,rfl,rfl⟩
 | cons e es a=>
  rw [(by
   cases e<;>first | rfl | exact absurd (an h).1 cK:assignEach _ env=(false,assign e env)::assignEach es env)]
  refine {congrArg _ (a (an h).2).1,congrArg _ (a (an h).2).2.1,?_};rw [List.findIdx?_cons,(a (an h).2).2.2];rfl
def nX{c}{a}:∀{es},jf c a es=true->es.all noStar=true/\a.length=es.length:=by
 induction a with
 | nil=>exact λ {es} h=>b4 (λ es=>es.all _=true/\0=es.length) h ⟨rfl,rfl⟩
 | cons t a b=>
  intro es h;cases es with
  | nil=>exact absurd h cK
  | cons e es=>
   exact {by simp only [sy,(an h).1,(b (an (an h).2).2).1];rfl,congrArg _ (b (an (an h).2).2).2}
def zP{a}:∀{vs} {ρ ρ'},lL a vs ρ=some ρ'->a.length=vs.length:=by
 induction a with
 | nil=>
  intro vs ρ ρ' h;cases vs with
  | nil=>rfl
  | cons _ _=>contradiction
 | cons t a b=>
  intro vs ρ ρ' h;cases vs with
  | nil=>contradiction
  | cons v vs=>exact ab h λ c ζ h=>congrArg _ (b h)
section
variable{fl:Bool}{Fs:List Addr}{c₀ c:Cx}{s₀:Shared}{σ:St}{E:VP}
end
structure eC(Kf:Frag)(P:Params)(Fs:List Addr)(c₀:Cx)(s₀:Shared)(σ:St)(c:Cx)(s:Shared):Prop where
 g:Gd Kf P σ c s.heap
 st:aN KA c₀ s₀.heap c s.heap
 gens:s.gens=s₀.gens
 os:s.os=s₀.os
 ok₀:c₀.ok
 fs:c.Fs=Fs
 sub:∀a∈c₀.Fs,a∈Fs
def Inv.uI{K}{e}{d}{a c}{b s}{σ}(I:Inv K e d a b σ c s):eC K.Kf K.w.params d a b σ c s:=⟨I.h.g,I.st,I.gens,I.os,I.ok₀,I.fs,I.sub⟩
def eC.next{P}{d}{a c c'}{b s s'}{σ σ'}(I:eC Kf P d a b σ c s)(p:bc Kf P c s σ' c' s'):eC Kf P d a b σ' c' s':=
 {p.good,I.st.trans p.st (I.fs▸I.sub),p.gens.trans I.gens,p.os.trans I.os,I.ok₀,p.fs.trans I.fs,I.sub}
def eC.post{P}{d}{a c}{b s}{σ}(I:eC Kf P d a b σ c s):bc Kf P a b σ (c.back a) s:=
 {I.g.back I.ok₀ I.st (I.fs▸I.sub),I.st.back I.ok₀,rfl,I.gens,I.os}
inductive x6(Kf:Frag)(P:Params){α:Type}(r:R α)(c:Cx)(s:Shared)(e:Value)(s':Shared):Prop
 | mk (wy:Str) (rr cc:Int) (σ':St) (c':Cx) (h:r= .ex (.exc wy rr cc) σ') (p:bc Kf P c s σ' c' s') (a:Addr) (ea:e= .ref a) (q:Rep KA P c'.ν c'.H s'.heap (.exc wy rr cc) (.ref a)) (x:eS c' s'.heap a (some .none)):x6 Kf P r c s e s'
structure NA(A:Around)(l:List Env)(d:Nat):Prop where
 hd:A.handled=none
 fr:A.frames=some l
 dp:A.depth+4*d+57<=recursionLimit
 un:A.units+40*d+390<=cLine
def Rm.c{A}{l}{d}(r:Rm A l d):NA A l d:={r.hd,r.fr,ag (ee ⋯ _) r.dp,ag (ee ⋯ _) r.un}
def iN(d:Nat)(f:Addr)(vs:List V)(σ:St)(r:R V):Prop:=∀A l c s a,NA A l d->cO s.heap c l->Gd Kf Pw σ c s.heap->cy c s.heap vs a->
 ∀T:Result->Shared->Prop,(∀m b,vT Kf Pw r c s m b->T (.ok (.ret m)) b)->(∀e b,x6 Kf Pw r c s e b->T (.error e) b)->codeAny M0 A (.call (.ref f) {a,[]}) T s
def iN.call{d}{f}{vs}{σ}{r}(h:iN d f vs σ r){A}{l}{c}{s}{mvs}(e:Rm A l d)(b:cO s.heap c l)(g:Gd Kf Pw σ c s.heap)(i:cy c s.heap vs mvs):
 wpAny M0 A (PySem.call (.ref f) mvs) (vT Kf Pw r c s) (x6 Kf Pw r c s) s:=su (h A l c s mvs e.c b g i _ (λ ζ ζ z=>z) λ ζ ζ z=>z)
def DT(v:V)(m:Value):Bool:=match m with
 | .none=>v.n?.isSome
 | .bool b=>uS v.b? λ a=>a==b
 | .int b _=>uS v.i? λ a=>a==b
 | .str b _=>uS v.s? λ a=>a==b
 | _=>false
noncomputable def j4(vs:List V)(ms:List Value):Bool:=match vs with
 | []=>ms.isEmpty
 | v::vs=>match ms with
  | []=>false
  | m::ms=>DT v m && j4 vs ms
def DS{P}{ν H}{h}{v}{m}(e:DT v m=true):Rep KA P ν H h v m:=by
 cases m<;>first
  | exact absurd e cK
  | (obtain ⟨a,q,e⟩:=CK e
     first
      | (cases V.o_ q;cases bq e;exact rfl)
      | (cases V.o6 q;cases bq e;exact ⟨_,rfl⟩)
      | (cases V.jW q;cases bq e;exact ⟨_,rfl⟩))
  | (cases q:v.n? with
     | none=>rw [show DT v _=v.n?.isSome from rfl,q] at e;contradiction
     | some _=>cases V.AI q;exact rfl)
def yQ{P}{ν H}{h}{v}:∀{m},j4 v m=true->aj KA P ν H h v m:=by
 induction v with
 | nil=>exact λ {m} e=>qm.mp e
 | cons v c a=>
  intro m e;cases m with
  | nil=>exact absurd e cK
  | cons m b=>exact {m,b,rfl,DS (an e).1,a (an e).2}
def tO(Kf:Frag)(v:Value)(a:List V):Bool:=match v with
 | .none=>a.isEmpty
 | .ref T=>match Kf.lookup T with
  | some ⟨_,_,.seq b _,_⟩=>j4 a b.toList
  | _=>false
 | _=>false
noncomputable def codeOk(Kf:Frag)(a:Value)(q:Str):Bool:=match a with
 | .ref c=>match Kf.lookup c with
  | some ⟨_,_,.fields b,_⟩=>match (b[1]? :Option Value) with
   | some (Value.str x _)=>x==q
   | _=>false
  | _=>false
 | _=>false
def sT{h}{a}{q}(X:Kf.In h)(e:codeOk Kf a q=true):h.CodeRec a q:=by
 unfold codeOk at e
 split at e
 ·split at e
  ·rename_i b
   split at e
   ·rename_i c;exact {_,_,_,_,rfl,X _ _ b,rfl,by rw [c,uW.mp e]}
   ·contradiction
  ·contradiction
 ·contradiction
set_option tactic.hygienic true in
def vy{M}{A}{E}{s}{v}{a}(X:Kf.In s.heap)(e:tO Kf v a=true):
 ∃b,j4 a b=true/\∀{Q},(∀o,(o.getD #[]).toList=b->Q o s)->wpAny M A (seqItems? v) Q E s:=by
 unfold tO at e
 split at e
 ·exact {[],by rw [qm.mp e];rfl,λ {Q} q=>aD (q _ rfl)}
 ·split at e
  ·rename_i T _ _ d n _ c;refine {d.toList,e,λ {Q} q=>wpAny_seqItems (X _ _ c) rfl (q _ rfl)}
  ·contradiction
 ·contradiction
theorem eR:∀(a) (n) (b) (x),(a.lookup x=some .cell∨(x,NameKind.cell)∈a)∨(b.lookup x).isSome=true->((cellsFrom n a b).lookup x).isSome=true
 | [],n,b,x,h=>by
  rcases h with (h | h) | h
  ·contradiction
  ·grind
  ·exact h
 | (y,k)::r,n,b,x,h=>by
  unfold cellsFrom
  split
  ·refine eR r _ _ x ?_;by_cases q:x=y
   ·subst q;exact .inr (by simp)
   ·have d:(x==y)=false:=beq_false_of_ne q
    rcases h with (h | h) | h
    ·rw [kQ,d] at h;exact .inl (.inl h)
    ·rcases a0.mp h with e | e
     ·injection e with e _;exact absurd e q
     ·exact .inl (.inr e)
    ·refine .inr ?_;simp only [kQ,d];exact h
  ·rename_i c;refine eR r n _ x ?_
   rcases h with (h | h) | h
   ·rw [kQ] at h;cases q:x==y
    ·rw [q] at h;exact .inl (.inl h)
    ·rw [q] at h;injection h with h;exact absurd h (by simpa using c)
   ·rcases a0.mp h with e | e
    ·injection e with _ e;exact absurd e.symm (by simpa using c)
    ·exact .inl (.inr e)
   ·exact .inr h
theorem qG{b}:∀{a:List Str} {ms} {m} {x},x∉a->bindL b (a.zip ms) m x=m x
 | [],_,_,_,_=>rfl
 | _::_,[],_,_,_=>rfl
 | p::a,v::ms,m,x,h=>by
  rw [a0,not_or] at h;simp [bindL];rw [qG h.2]
  split
  ·simp [h.1]
  ·rfl
theorem qH{b}:∀{a:List Str} {ms} {m} {x},x∉a->bindC b (a.zip ms) m x=m x
 | [],_,_,_,_=>rfl
 | _::_,[],_,_,_=>rfl
 | p::a,v::ms,m,x,h=>by
  rw [a0,not_or] at h;simp [bindC];rw [qH h.2]
  split
  ·rfl
  ·simp [h.1]
theorem nZ{f}:∀{a:List Str} {ms} {m} {i:Nat} {x} {v},a.Nodup->a[i]? =some x->ms[i]? =some v->f x=some .local->bindL f (a.zip ms) m x=some v
 | [],_,_,_,_,_,_,h,_,_=>by simp_all
 | _::_,[],_,_,_,_,_,_,h,_=>by simp_all
 | p::a,w::ms,m,i,x,v,b,c,d,e=>by
  rw [nh] at b;simp [bindL];cases i with
  | zero=>
   simp at c d;subst c d;rw [qG b.1,if_pos e];exact if_pos rfl
  | succ i=>exact nZ b.2 (by assumption) (by assumption) e
theorem sY{f}:∀{a:List Str} {ms} {m} {i:Nat} {x} {v},a.Nodup->a[i]? =some x->ms[i]? =some v->f x≠some .local->bindC f (a.zip ms) m x=some v
 | [],_,_,_,_,_,_,h,_,_=>by simp_all
 | _::_,[],_,_,_,_,_,_,h,_=>by simp_all
 | p::a,w::ms,m,i,x,v,b,c,d,e=>by
  rw [nh] at b;simp [bindC];cases i with
  | zero=>
   simp at c d;subst c d;rw [qH b.1,if_neg e];exact if_pos rfl
  | succ i=>exact sY b.2 (by assumption) (by assumption) e
def Gd.grow{P}{σ}{c c'}{h l}(g:Gd Kf P σ c h)(k:∀b o,h.get? b=some o->l.get? b=some o)(st:aN KA c h c' l)(j:c'.ν=c.ν)(f:c'.μ=c.μ)(u:c'.ok)(n:∀a∈c'.H,a∈c.H∨(h.get? a=none/\∃o,l.get? a=some o))(t:∀a∈c'.Fs,a∈c.Fs∨h.get? a=none):Gd Kf P σ c' l:=by
 refine {u,g.bC.keeps k,λ a m=> ?_,λ a m=> ?_,by rw [j];exact g.ln,by rw [f];exact g.lm,λ a m q=> ?_,λ i o a d p r s=> ?_,by delta Cx.On;rw [j,f];exact g.apart}
 ·rcases n a m with z | ⟨z,_⟩
  ·exact g.gS a z
  ·cases q:Kf.lookup a with
   | none=>rfl
   | some o=>rw [g.bC a o q] at z;contradiction
 ·rcases n a m with z | ⟨_,z⟩
  ·obtain ⟨o,e⟩:=g.low a z;exact {o,k _ _ e}
  ·exact z
 ·rw [(by unfold Cx.S;rw [j,f]:c'.S=c.S)] at m
  rcases t a q with z | z
  ·exact g.cF a m z
  ·obtain ⟨o,e⟩:=g.low a (g.ok.s a m);rw [z] at e;contradiction
 ·exact (g.obj i o a d p (j▸r) (f▸s)).step g.ok st (k _) (k _)
def aN.y1{c c'}{h g}(k:∀b o,h.get? b=some o->g.get? b=some o)(f:c'.ν=c.ν)(d:c'.μ=c.μ)(sub:∀a∈c.H,a∈c'.H)(j:∀a∈c'.H,a∈c.H∨h.get? a=none)(l:∀a∈c'.Fs,a∈c.Fs∨h.get? a=none):aN KA c h c' g:={λ b o e ζ ζ=>{o,k b o e,.refl o},λ b o e ζ ζ=>{o.slots,k b o e},λ b o e=>{o,k b o e},λ a m=> .inl ((by unfold Cx.S;rw [f,d]:c'.S=c.S)▸m),l,j,sub,λ i a e=>by rw [f];exact e,λ i a e=>by rw [d];exact e}
noncomputable def ΓOf(a:List Str):List (Str×Nat):=a.zip (List.range a.length)
def eS.mono{c c'}{h}{a}{p}(i:∀b∈c'.H,b∈c.H)(x:eS c h a p):eS c' h a p:=x.casesOn (λ j o k e n f=> .no j o k e (λ m=>n (i _ m)) f) λ v j o k T d s l e n f r q g=> .at v j o k T d s l e (λ m=>n (i _ m)) f (λ m=>r (i _ m)) q g
structure n7(Kf:Frag)(f:Addr)(fn:Fn)(nm:List Str)(fd:FuncData)(body:List Stmt):Prop where
 look:∃oc od sl,Kf.lookup f=some {oc,od,.func fd,sl}
 kind:fd.scope.kind= .function
 co:fd.scope.isCoroutine=false
 gen:fd.scope.isGenerator=false
 QR:fd.closure= []
 gl:fd.globals=mainGlobals
 bl:fd.builtins=builtinsNs
 body:fd.body= .stmts body
 code:codeOk Kf fd.code fd.qualname=true
 p1:fd.params.posonlyargs= []
 p2:fd.params.args.map (·.arg)=nm.take fn.np
 p3:fd.params.kwonlyargs= []
 p4:fd.params.vararg=none
 p5:fd.params.kwarg=none
 nd:nm.Nodup
 len:fn.np<=nm.length
 kc:tO Kf fd.defaults fn.kc=true
 dl:fn.kc.length<=fn.np
 st:(nm.take fn.np).all (cA fd.scope.names true)=true
def gv{v}:∀{m},j4 v m=true->v.length=m.length:=by
 induction v with
 | nil=>exact λ {m} e=>b4 (λ m=>0=m.length) e rfl
 | cons v c a=>
  intro m e;cases m with
  | nil=>exact absurd e cK
  | cons m b=>exact congrArg _ (a (an e).2)
def aj.append'{P}{ν H}{h}{vs c}{a b}(r:aj KA P ν H h vs a)(q:aj KA P ν H h c b):aj KA P ν H h (vs++c) (a++b):=r.append q
def yR{v}:∀{m} (n),j4 v m=true->j4 (v.drop n) (m.drop n)=true:=by
 induction v with
 | nil=>exact λ {m} n e=>b4 (λ m=>j4 _ (m.drop n)=true) e (by rw [List.drop_nil,List.drop_nil];rfl)
 | cons v c a=>
  intro m n e;cases m with
  | nil=>exact absurd e cK
  | cons m b=>
   cases n with
   | zero=>exact e
   | succ n=>exact a n (an e).2
def ΓOf_get{a}{x}{i}(h:(ΓOf a).lookup x=some i):a[i]? =some x:=by
 have:=mem_of_lookup h;unfold ΓOf at this;obtain ⟨j,c,e⟩:=u6.mp this;simp [Prod.mk.injEq] at e;obtain ⟨b,rfl⟩:=e;rw [cQ (by grind),b]
def ΓOf_inj{a}:injΓ (ΓOf a)=true:=jI (by
 rw [Bg (by simp)]
 exact List.nodup_range:(List.map _ (a.zip _)).Nodup)
section
variable{K:Ct}{σ:St}{r:R V}{r1:R V}{rs:R (List V)}{p:Pr}
def l_{f}(e:keepIn Kf f=true)(h)(X:Kf.In h):∃k,(k=Keeper.frame∨k=Keeper.machine∨k=Keeper.boundFrame)/\Looks M0 h (keeperOf f) k:=by
 obtain ⟨k,a,b⟩:=looks_keep e X;exact {k,a.elim .inl λ z=> .inr (.inl z),b}
end
section
variable{K:Ct}{σ:St}{r:R V}{r1:R V}{rs:R (List V)}{p:Pr}
def pq{P}{ν H}{h}{b}{m}(q:Rep KA P ν H h (.bool b) m):m= .bool b:=q
noncomputable def DC(a:Bool):BoolOp:=if a then .And else .Or
end
section
variable{K:Ct}{σ:St}{r:R V}{r1:R V}{rs:R (List V)}{p:Pr}
def sU{p}{a b}{x}(h:pR p a b=some x)(σ):hF (Dp p σ a b)=some (.bool x):=by
 cases p<;>first
  | (contradiction)
  | exact congrArg hF h
def m8{op d}{a b}(c:cq b=true):lastMarks [op,d] [a,b]=false:=jl c
end
section
def mK{b:Type}{l}{x:b}:∀(i:Nat) (a),l[i]? =some a->(l++ [x])[i]? =some a:=λ i a e=>by
 rw [By (di.mp e).1];exact e
variable{P:Params}{c:Cx}{h:Heap}{a d:Addr}
def aS.ext{x y}{o}(r:aS P c h a d o):aS P (c.adopt x y) h a d o:=aS.tr (c':=c.adopt x y) (.same mK λ ζ ζ e n=>⟨n,e⟩) (λ ζ e=>e) (λ ζ e=>e) r
variable{σ:St}{o':O}
def Gd.adopt(g:Gd Kf P σ c h)(E:a∈c.H)(F:d∈c.H)(G:a∉c.S)(H:d∉c.S)(C:a∉c.Fs)(D:d∉c.Fs)(r:aS P c h a d o'):Gd Kf P (σ++ [o']) (c.adopt a d) h:=by
 refine {{λ b m=> ?_,g.ok.f},g.bC,g.gS,g.low,?_,?_,λ b m=> ?_,λ i o A B l f s=> ?_,λ i j x y n l f=> ?_}
 ·rcases ((λ b=>Cx.tW) b).mp m with m | rfl | rfl
  ·exact g.ok.s b m
  ·exact E
  ·exact F
 ·show (c.ν++ [a]).length=_;simp [g.ln]
 ·show (c.μ++ [d]).length=_;simp [g.lm]
 ·rcases ((λ b=>Cx.tW) b).mp m with m | rfl | rfl
  ·exact g.cF b m
  ·exact C
  ·exact D
 ·rcases eQ l with l | ⟨rfl,rfl⟩
  ·have u:=(di.mp l).1;exact (g.obj i o A B l (By (by rw [g.ln];exact u)▸f) (By (by rw [g.lm];exact u)▸s)).ext
  ·rcases eQ f with f | ⟨_,rfl⟩
   ·exact absurd (g.ln▸(di.mp f).1) (my _)
   rcases eQ s with s | ⟨_,rfl⟩
   ·exact absurd (g.lm▸(di.mp s).1) (my _)
   exact r.ext
 ·have t:∀{i x},(c.adopt a d).On i x->c.On i x∨(i=σ.length/\(x=a∨x=d)):=λ z=>z.elim (λ z=>(eQ z).imp .inl λ q=>{q.1.trans g.ln,.inl q.2}) λ z=>(eQ z).imp .inr λ q=>{q.1.trans g.lm,.inr q.2}
  have v:∀{i x y},c.On i x->y=a∨y=d->x≠y:=λ {i x y} z q e=>by
   have m:=z.elim Cx.memν Cx.memμ;rw [e] at m;exact q.elim (λ q=>G (q▸m)) λ q=>H (q▸m)
  exact (t l).elim (λ p=>(t f).elim (λ k=>g.apart i j x y n p k) λ k=>v p k.2) λ p=>(t f).elim (λ k=>Ne.symm (v k p.2)) λ k=>absurd (p.1.trans k.1.symm) n
variable{c₀:Cx}{s₀ s:Shared}
def eC.adopt{l}(G:eC Kf P l c₀ s₀ σ c s)(p:a∈c.H)(q:d∈c.H)(y:a∉c.S)(A:d∉c.S)(t:a∉c.Fs)(u:d∉c.Fs)(j:s₀.heap.get? a=none)(k:s₀.heap.get? d=none)
 (r:aS P c s.heap a d o'):eC Kf P l c₀ s₀ (σ++ [o']) (c.adopt a d) s:=
 {G.g.adopt p q y A t u r,⟨λ b o e n f=>(G.st.keep b o e n f).elim λ o' g=>{o',g.1,g.2.to λ v z=>by
  exact gE.to z λ T b=>{b.1,λ m=>by
   rcases Cx.tW.mp m with m | rfl | rfl
   ·exact b.2.1 m
   ·exact b.1 p
   ·exact b.1 q,b.2.2}},G.st.o7,G.st.there,λ b m=>by
  rcases Cx.tW.mp m with m | rfl | rfl
  ·exact G.st.iG b m
  ·exact .inr j
  ·exact .inr k,G.st.jN,G.st.avoid,G.st.bz,λ i x e=>mK _ _ (G.st.grow i x e),λ i x e=>mK _ _ (G.st.nG i x e)⟩,G.gens,G.os,G.ok₀,G.fs,G.sub}
def eC.full(O:eC Kf P c₀.Fs c₀ s₀ σ c s):bc Kf P c₀ s₀ σ c s:=⟨O.g,O.st,O.fs,O.gens,O.os⟩
section
variable(M:Model)(A:Around)(env:Env)(E:VP)
noncomputable def f7:List Expr->(List Value->Shared->Prop)->Shared->Prop
 | [],Q,s=>Q [] s
 | e::f,Q,s=>∀t,wpAny M A (eval e env) (λ v b=>f7 f (λ g=>Q (v::g)) b) E {s with toks:=t}
end
variable{M:Model}{A:Around}{env:Env}{E:VP}
theorem f7.mono{E'}(g:∀e s,E e s->E' e s):∀{es} {Q f} {s},(∀vs s,Q vs s->f vs s)->f7 M A env E es Q s->f7 M A env E' es f s
 | [],_,_,_,b,x=>b _ _ x
 | _::_,_,_,_,b,x=>λ t=>az (x t) (λ ζ ζ y=>f7.mono g (λ ζ ζ z=>b _ _ z) y) g
def f7.seq:∀{es} {Q} {s},f7 M A env E es Q s->a6 M A env E es Q s
 :=by
 intro e
 induction e with
 | nil=>
  intro _ _ x;exact x
 | cons _ _ b=>
  intro _ s x;exact az (x _) (λ ζ ζ y=>b y) λ ζ ζ z=>z
section
variable{K:Ct}{σ:St}{r:R V}{r1:R V}{rs:R (List V)}{p:Pr}{A:Around}{env:Env}{pos:Pos}{E:VP}{s:Shared}
def oM{M}{x}{b}{Q}(k:∀t e,Q (.str x t) {s with toks:=e}):wpAny M A (eval (.Constant (.str x) b pos) env) Q E s:=wpAny_mkText (k _ _)
variable{ks:List Str}
def yD:∀{b} {f} {Q} {s},keysOk ks b=true->ks.length=f.length->
 f7 M0 A env E f Q s->wpAny M0 A (evalPairs (pairTrees b f env pos)) (λ i s'=>∃vs,allStrKeys i=true/\strPairs i=ks.zip vs/\ks.length=vs.length/\Q vs s') E s:=by
 induction ks with
 | nil=>
  intro b f Q s h l j;cases qm.mp h;cases f with
  | nil=>exact pairTrees_nil_walk {[],rfl,rfl,rfl,j}
  | cons _ _=>contradiction
 | cons k ks u=>
  intro b f Q s h l j;cases b with
  | nil=>exact absurd h cK
  | cons e b=>
   cases f with
   | nil=>contradiction
   | cons v f=>
    exact e9 (λ e=>wpAny _ A (evalPairs (pairTrees (e::b) _ env pos)) _ E s) (an h).1 λ e q=>uf (λ e=>wpAny _ A (evalPairs (pairTrees (some e::b) _ env pos)) _ E s) q λ C B=>pairTrees_cons_walk (oM λ t y=>az (j y) (λ m n z=>az (u (an h).2 (sx l) z) (λ i o z=>z.elim λ vs g=>⟨m::vs,by simpa [allStrKeys] using g.1,by simp [strPairs,g.2.1],congrArg _ g.2.2.1,g.2.2.2⟩) λ ζ ζ x=>x) λ ζ ζ x=>x)
def v9:∀{b},keysOk ks b=true->b.all (·.isSome)=true/\b.length=ks.length:=by
 induction ks with
 | nil=>exact λ {b} h=>b4 (λ b=>b.all _=true/\b.length=0) h ⟨rfl,rfl⟩
 | cons k ks f=>
  intro b h;cases b with
  | nil=>exact absurd h cK
  | cons e b=>
   exact e9 (λ e=>(e::b).all _=true/\(e::b).length=ks.length+1) (an h).1 λ e ζ=>{(f (an h).2).1,congrArg _ (f (an h).2).2}
noncomputable def Cx.eK(c:Cx)(a:Addr):Cx:={c.ν,c.μ,c.Fs,a::c.H}
variable{P:Params}{c:Cx}{s':Shared}
def bc.eK{σ}{a}(g:Gd Kf P σ c s.heap)(k:∀b o,s.heap.get? b=some o->s'.heap.get? b=some o)(j:s'.gens=s.gens)(l:s'.os=s.os)(i:s.heap.get? a=none)(f:∃o,s'.heap.get? a=some o):bc Kf P c s σ (c.eK a) s':=by
 have e:∀b∈(c.eK a).H,b∈c.H∨s.heap.get? b=none/\∃o,s'.heap.get? b=some o:=λ b m=>by
  rcases a0.mp m with rfl | m
  ·exact .inr ⟨i,f⟩
  ·exact .inl m
 have st:aN KA c _ (c.eK a) _:=aN.y1 k rfl rfl (λ b m=> .tail _ m) (λ b m=>(e b m).imp id (·.1)) λ b m=> .inl m;exact {g.grow k st rfl rfl {λ b m=> .tail _ (g.ok.s b m),λ b m=> .tail _ (g.ok.f b m)} e λ b m=> .inl m,st,rfl,j,l}
def eC.of{c'}{σ'}(b:c.ok)(p:bc Kf P c s σ' c' s'):eC Kf P c.Fs c s σ' c' s':={p.good,p.st,p.gens,p.os,b,p.fs,λ ζ m=>m}
def eC.off{e}{c₀}{s₀}{σ}{f}{b}{t}(O:eC Kf P e c₀ s₀ σ c s)(u:dE c s.heap f b)(g:s₀.heap.get? b=none):eC Kf P e c₀ s₀ σ c {s with heap:=f,toks:=t}:=
 {O.g.off u,aN.off O.st u g,O.gens,O.os,O.ok₀,O.fs,O.sub}
def aE(h:Heap):h.get? h.objs.size=none:=nu (bV _)
def not_modules{h}(F:KF Kf)(X:Kf.In h):(h.objs.size==sysModules)=false:=by
 refine (nB.mp F.sm).elim λ o e=> ?_;have:=X _ _ e;rw [beq_eq_false_iff_ne];intro q;rw [←q,aE] at this;contradiction
end
end
section
variable{K:Ct}{σ:St}{r:R V}{r1:R V}{rs:R (List V)}{p:Pr}
def cE.of{h}{a}{ks}{k}{m}(x:h.DictOfH (tupleKind (strKind prog w)) a [(ks,k,m)])(q:(a==sysModules)=false):cE Pw h a (some (ks,k,m)):=by
 obtain ⟨o,i,g,e,⟨b,c,d⟩,f,j,_,_⟩:=x;obtain ⟨s,t,l,n⟩:=o;simp at b c d f;subst b c d f;refine {g,?_,q}
 rw [e,(by
  apply Array.ext'
  simpa using j:i= #[entryOfKey _ _])];rfl
end
def zK(a b c:Str):(a++b)++c=a++(b++c):=by
 show Str.mk _=Str.mk _
 congr 1
 exact Array.append_assoc ..
def rY(a):Str.empty++a=a:=by
 show Str.mk (#[]++a.cps)=a;simp
def RT(a):a++Str.empty=a:=rfl
def AM{i}(h:e_ i=true):i.natAbs.log2<1920:=by
 simp only [e_,decide_eq_true_eq] at h;by_cases a:i.natAbs=0
 ·rw [a];decide
 ·have:=(Nat.log2_lt a).mpr h;exact xn this ⋯
section
variable{A:Around}{E:VP}{s:Shared}
def Dc{I:String}{a b v o}{ks}{m f}{Q}(D:(a==sysModules)=false)(F:(b==sysModules)=false)(H:A.units<cLine)
 (y:s.heap.DictOfH (tupleKind (strKind prog w)) a [(ks,v,m)]) (z:s.heap.DictOfH (tupleKind (strKind prog w)) b [(ks,o,f)]) (G:EqAt A s m f true) (h:∀t,Q true {s with toks:=t}):
 wpAny M0 A (Builtin.Dict.samePairs I a b) Q E s:=by
 refine y.elim λ L q=>q.elim λ i q=>q.elim λ J d=> ?_;refine z.elim λ M q=>q.elim λ e q=>q.elim λ B c=> ?_;have g:i= #[entryOfKey (tupleKind (strKind prog w)) (ks,v,m)]:=by apply Array.ext';simpa using d.2.2.2.1
 have r:e= #[entryOfKey (tupleKind (strKind prog w)) (ks,o,f)]:=by apply Array.ext';simpa using c.2.2.2.1
 unfold Builtin.Dict.samePairs Builtin.Dict.showsAll;rw [if_neg (by rw [D];exact cK),if_neg (by rw [F];exact cK)];refine af (aD (af (aD (af (FT d.1 d.2.2.1 (af (FT c.1 c.2.2.1 ?_)))))));rw [if_neg (by simp only [g,r];simp)];refine af (wpAny_dictEpoch d.1 d.2.2.1 (af ?_));rw [Std.Legacy.Range.forIn_eq_forIn_range'];rw [(by rw [g];rfl:i.size=1)];show wpAny _ _ (forIn [0] _ _) _ _ _;rw [sC];refine af (af (FT d.1 d.2.2.1 ?_));rw [(by rw [g];rfl:i[0]? =some (entryOfKey _ _))];show wpAny _ _ _ _ _ _;refine af (i1 (af (wpAny_dictFind_heap (knd:=tupleKind _) (k:=ks) (H) (d.2.2.2.2.1 _ (.head _)) c.1 c.2.2.1 c.2.2.2.1 c.2.2.2.2.1 c.2.2.2.2.2 ?_ ?_)))
 ·intro n;exact (n 0 _ rfl).elim
 ·intro j p u
  have l:=by
   have:=(di.mp u).1;simp at this;exact this
  subst l;simp at u;refine af (FT c.1 c.2.2.1 ?_);have C:e[0]? =some (entryOfKey (tupleKind (strKind prog w)) (ks,o,f)):=by rw [r];rfl
  rw [C];refine i1 (G _ w _ _ (af (wpAny_dictEpoch d.1 d.2.2.1 ?_)));rw [if_neg (by simp)];refine aD ?_;refine (?_:wpAny _ _ (forIn [] _ _) _ _ _);exact aD (aD (h s.toks))
def DJ{a b}{Q}(d:s.TypeIs (.ref a) "dict")(e:s.TypeIs (.ref b) "dict")(f:A.units<cLine)
 (k:wpAny M0 A.in1 (Builtin.Dict.samePairs "dict.__ne__" a b) (λ r s'=>Q (.bool (!r)) s') E s):wpAny M0 A (compareOp .NotEq (.ref a) (.ref b)) Q E s:=wpAny_richCompare_same_room (op:=.NotEq) d e PySem.F.slot_dict_ne (wpAny_call_entry PySem.F.slot_dict_ne d PySem.F.entry_dict_ne (af (af (wpAny_notOrdered_dict d (aD (af (wpAny_isInstance e PySem.F.sub_dict_dict (af (aD (af (aD (af (az k (λ r s' h=>aD {_,rfl,nofun,(by simpa using h)}) λ ζ ζ x=>x)))))))))))) (PySem.F.args_dict_ne_2 _ _)) f
end
section
variable{K:Ct}{σ:St}{r:R V}{rs:R (List V)}
end
end PM
end
section
open PySem PySem.W PyProof.Rows PySem.Calls PySem.NumText
namespace PM
def N6{x}{n:Int}(h:Qb x=some n):x=(int_private% "Numeral.value") n:=by
 cases x with
 | value i=>exact congrArg _ (ar h)
 | _=>cases h
def CG{M:Model}{A:Around}{E:VP}{s:Shared}{Q:VP}{v:Value}{a:List Nat}{n:Int}{b:Nat}
 (e:(a.takeWhile (· !=0)).length<=640) (d:(int_private% "readNumeral") 0 b (a.takeWhile (· !=0))=(int_private% "Numeral.value") n)
 (c:((a.takeWhile (· !=0)).length==a.length)=true) (h:Q (.int n s.toks) {s with toks:=s.toks+1}):
 wpAny M A ((int_private% "intFromText") v a b) Q E s:=by
 repeat (any_goals (first
  | assumption
  | (with_reducible refine wpAny_ite_true (jI e) ?_)
  | (with_reducible refine wpAny_ite_true _ ?_)
  | wp_step))
 all_goals (try rw [d])
 repeat (any_goals (first
  | assumption
  | (with_reducible refine wpAny_ite_true _ ?_)
  | (with_reducible refine wpAny_ite_true (jI c) ?_)
  | wp_step))
def qQ(a b:Value):checkTypeCall "int" {[a,b],[]}=pure ():=⋯
def s_(a b:Value):checkBuiltinCall "int.__new__" {[.type "int",a,b],[]}=pure ():=⋯
def Cz(a b c:Value):argsOk "object.__init__" {[a,b,c],[]}:=⋯
structure To(x:Str)(b n:Int):Prop where
 g:decide (((b !=0 && b<2) || b>36)=true)=false
 s:(numSeenOf x).length<=640
 r:(int_private% "readNumeral") 0 b.toNat (numSeenOf x)=(int_private% "Numeral.value") n
 l:((numSeenOf x).length==(numTextOf x).length)=true
set_option maxHeartbeats 4000000 in
def wa{x:PySem.Str}{u t:Tok}{b n:Int}(k:To x b n):Gives (Builtin.«int.__new__» {[.type "int",.str x u,.int b t],[]}) (.int n):=
 .of_wp λ M A E s Q h=>by
  obtain ⟨i,g,d,j,os⟩:=s;have c:=F.conv_sub_int
  have e:=F.madeHere_int;have f:typeOf (.str x u)=pure (.type "str"):=rfl
  repeat (any_goals (first
   | assumption
   | (with_reducible refine wpAny_ite_false k.g ?_)
   | ((with_reducible show wpAny _ _ ((int_private% "intFromText") _ _ _) _ _ _);refine CG k.s k.r k.l ?_)
   | wp_step))
  all_goals first | exact ⟨_,rfl,h⟩ | skip
section
variable{A:Around}{E:VP}{s:Shared}{Q:VP}{c:Cx}{σ:St}
def Il{vs:List V}{mvs:List Value}{v:V}(e:ED .nC vs=some v)(r:cy c s.heap vs mvs)(k:∀m t,Rp c s.heap v m->Q m {s with toks:=t}):wpAny M0 A (PySem.call (.type "int") mvs) Q E s:=
 tH (λ mvs=>wpAny _ A (PySem.call _ mvs) Q E s) e r λ a b m n e o p=>ab e λ x l e=>ab e λ b j e=>bf (λ m=>wpAny _ A (PySem.call _ [m,n]) Q E s) l o λ t=>cf (λ n=>wpAny _ A (PySem.call _ [.str x t,n]) Q E s) j p λ u=>
 aR e λ q e=>ab e λ n h e=>
  have i:numTextOf x=x.cps.toList:=if_pos q.2.2.1;have f:numSeenOf x=x.cps.toList:=(congrArg (List.takeWhile _) i).trans q.2.2.2
  callType_new F.called_int F.newNe_int (qQ _ _) (s_ _ _) (λ g=>Cz g _ _) F.entry_int_new
   (wa {qp q.1,f▸q.2.1,f▸N6 h,by rw [i,f];exact ff _}).meets {rfl,k _ _ (ar e▸⟨_,rfl⟩)}
end
end PM
end
section
open PySem PySem.W PyProof.Rows PySem.Calls PySem.SeqAt PySem.StrLaws
namespace PM
section
variable{K:Ct}{σ:St}{r:R V}{r1:R V}{rs:R (List V)}
def D7{i}{p}(h:headOf σ i=some p):σ[i]? =some (.list (p.1::p.2)):=by
 refine ab h λ o b h=>ab h λ l a h=> ?_;cases O.AP a;cases l with
 | nil=>contradiction
 | cons v l=>cases h;exact b
end
section
variable{K:Ct}{σ:St}
def jK{b}{i}{a}(h:bo b i a=true):∃x pos,a= .Name x pos/\cI x=true/\b.lookup x=some i:=cz (λ a=>∃x pos,a= .Name x pos/\cI x=true/\b.lookup x=some i) h λ x p h=>{x,p,rfl,(an h).1,bq (an h).2}
def hW{i}{a}{l}{c}{s}{Q E}(H:K.Hp σ c s)(f:bo K.Γ i a=true)(b:K.ow=some i)(g:ay K.ρ i=some (.lst l))
 (k:∀mvs,SeqAt s.heap K.oa "list" mvs->aj KA K.w.params c.ν c.H s.heap l mvs->Q (.ref K.oa) s):wpAny (model K.prog K.w) K.A (eval a K.env) Q E s:=by
 obtain ⟨x,h,rfl,d,e⟩:=jK f;refine jE H.er d e g λ n q=> ?_;cases q.own b with
 | lst _ mvs _ m j=>exact k mvs m j
noncomputable def Cx.em(c:Cx):Cx:={c.ν,c.μ,c.Fs,[]}
def wY{P}{c:Cx}{h}{l}{a}{mvs}(d:SeqAt h a "list" mvs)(b:aj KA P c.ν c.H h l mvs):Rep KA P c.em.ν c.em.H h (.lst l) (.ref a):={a,mvs,rfl,by simp [Cx.em],d,aj.mono (λ ζ m=>by simp [Cx.em] at m) _ _ b}
end
set_option backward.match.sparseCases true in
noncomputable def isStar:Expr->Bool
 | .Starred _ _=>true
 | _=>false
noncomputable def Ld(c:List (Str×NameKind))(a:Nat):Expr->Option Str
 | .Name id b=>if c.lookup id==some .local && b.line==a then some id else none
 | _=>none
def PJ(c:List (Str×NameKind))(b vs:List Expr):Option (Option (List Str)):=
 if !(b.length==2 || b.length==3) || vs.length !=b.length then some none
 else if vs.any isStar then some none
 else let a:=b.filterMap (Ld c ((b.head?.map (·.pos.line)).getD 0))
  if a.length !=b.length || a.eraseDups.length !=a.length then some none
  else if vs.all (foldedForSure 8) then some none
  else if vs.all (constantsAlone 8) then none
  else some (some a)
noncomputable def qS(E:Expr):Option (List Expr):=match E with
 | .Tuple a _ _=>some a
 | _=>none
def JA(c:List (Str×NameKind))(T:Expr)(o:Option (List Expr)):Option (Option (List Str)):=match o with
 | none=>some none
 | some b=>match T with
  | .Tuple a _ _=>PJ c a b
  | .List _ _=>none
  | _=>some none
def NQ(b:List (Str×NameKind))(T a:Expr):Option (Option (List Str)):=JA b T (qS a)
def gH(c:List (Str×NameKind))(a:List Expr)(b:Expr):Option (Option (List Str)):=match a with
 | []=>none
 | T::r=>cond r.isEmpty (NQ c T b) none
set_option backward.match.sparseCases true in
noncomputable def AB(env:Env)(a:Nat):Expr->Option Str
 | .Name id pos=>if env.kindOf id==some .local && pos.line==a then some id else none
 | _=>none
def R9{a vs}{tk c}{b d}{env}:swappedStores [.Tuple a tk b] (.Tuple vs c d) env=
 (if !(a.length==2 || a.length==3) || vs.length !=a.length || env.blockKind != .function then pure none
  else if vs.any isStar then pure none
  else if (a.filterMap (AB env ((a.head?.map (·.pos.line)).getD 0))).length !=a.length || (a.filterMap (AB env ((a.head?.map (·.pos.line)).getD 0))).eraseDups.length !=(a.filterMap (AB env ((a.head?.map (·.pos.line)).getD 0))).length then pure none
  else if vs.all (foldedForSure 8) then pure none
  else if vs.all (constantsAlone 8) then unsupported "assign.tuple-of-constant-expressions:order-of-the-stores"
  else pure (some (a.filterMap (AB env ((a.head?.map (·.pos.line)).getD 0))))):=rfl
def z1{g:Type}{c:Prop}[Decidable c]{d e:Option g}{f y2:Sem g}(a:∀o,d=some o->f=pure o)(b:∀o,e=some o->y2=pure o):∀o,(if c then d else e)=some o->(if c then f else y2)=pure o:=by
 by_cases h:c
 ·rw [if_pos h,if_pos h];exact a
 ·rw [if_neg h,if_neg h];exact b
def uy{a:Type}{x:a}:∀o,some x=some o->(pure x:Sem a)=pure o:=λ ζ h=>ar h▸rfl
def Jz{b}{c vs}{tk i}{g j}{env}{o}(d:env.scope.kind= .function)(f:env.scope.names=b)(h:PJ b c vs=some o):swappedStores [.Tuple c tk g] (.Tuple vs i j) env=pure o:=by
 rw [R9,(by unfold Env.blockKind;rw [d];rfl:(env.blockKind != .function)=false),Bool.or_false,(λ a=>by
  subst f
  funext e
  cases e<;>rfl:∀a,AB env a=Ld b a)]
 exact z1 uy (z1 uy (z1 uy (z1 uy (z1 (λ ζ=>aQ) uy)))) o h
def NN{E}{vs}(h:qS E=some vs):∃k p,E= .Tuple vs k p:=by
 cases E<;>first
  | exact aQ h
  | exact ar h▸⟨_,_,rfl⟩
def Se{b}{k}{p}{a}{env}:qS a=none->swappedStores [.Tuple b k p] a env=pure none:=by
 cases a<;>first
  | exact λ ζ=>rfl
  | exact λ h=>aQ h.symm
def Sb{b}{p}{a}{env}:qS a=none->swappedStores [.List b p] a env=pure none:=by
 cases a<;>first
  | exact λ ζ=>rfl
  | exact λ h=>aQ h.symm
def Sa{T a}{env}:qS a=none->swappedStores [T] a env=pure none:=by
 cases T<;>first
  | exact λ ζ=>rfl
  | exact Se
  | exact Sb
def R_{a}{T}{vs}{k}{p}{env}{o}(b:env.scope.kind= .function)(c:env.scope.names=a):JA a T (some vs)=some o->swappedStores [T] (.Tuple vs k p) env=pure o:=by
 cases T<;>first
  | exact λ h=>ar h▸rfl
  | exact λ h=>aQ h
  | exact Jz b c
def zI{b}{T a}{env}{o}(c:env.scope.kind= .function)(d:env.scope.names=b)(h:gH b [T] a=some o):swappedStores [T] a env=pure o:=by
 have h:JA b T _=some o:=h;cases q:qS _ with
 | none=>
  exact ar (q▸h)▸Sa q
 | some f=>
  rw [q] at h;obtain ⟨k,p,e⟩:=NN q;exact e▸R_ c d h
noncomputable def jL:Expr->Bool
 | .ListComp _ _ _ _=>true
 | .SetComp _ _ _ _=>true
 | .DictComp _ _ _ _ _=>true
 | _=>false
def kM{a}{t}{b}{env}(h:jL a=false):swapsWith a t b env=pure false:=by
 cases a<;>first | rfl | contradiction
noncomputable def mO:List (Str×Nat)->List V->En->En
 | p::L,v::b,a=>mO L b (a.set p.2 (some v))
 | _,_,a=>a
def lM{L}:∀{vs} {ρ} {j},j∉L.map (·.2)->(mO L vs ρ)[j]? =ρ[j]? :=by
 induction L with
 | nil=>exact λ {_ _ _} _=>rfl
 | cons p L a=>
  intro vs ρ j h;cases vs with
  | nil=>rfl
  | cons v vs=>exact (a λ m=>h (.tail _ m)).trans (ny λ q=>h (a0.mpr (.inl q.symm)))
def uk{L}:∀{vs} {ρ} {k:Nat} {x} {j} {v},(L.map (·.2)).Nodup->(∀p∈L,p.2<ρ.length)->L[k]? =some (x,j)->vs[k]? =some v->(mO L vs ρ)[j]? =some (some v):=by
 induction L with
 | nil=>intro vs ρ k x j v _ _ h _;contradiction
 | cons p L e=>
  intro vs ρ k x j v d c a b;cases vs with
  | nil=>contradiction
  | cons w vs=>
   cases k with
   | zero=>
    cases a;cases b;exact (lM (nh.mp d).1).trans (qs (c _ (.head _)))
   | succ k=>exact e (nh.mp d).2 (λ p m=>sD.symm▸c p (.tail _ m)) a b
def z3{b:Type}{l:List b}{k:Nat}{x:b}(h:l[k]? =some x):l.reverse[l.length-1-k]? =some x:=by
 have a:=(di.mp h).1;rw [List.getElem?_reverse (Nat.sub_one_sub_lt_of_lt a),Nat.sub_sub_self (Nat.le_sub_one_of_lt a)];exact h
def C7{L}{vs}{ρ}(i:(L.map (·.2)).Nodup)(g:∀p∈L,p.2<ρ.length)(a:L.length=vs.length):mO L.reverse vs.reverse ρ=mO L vs ρ:=by
 apply List.ext_getElem?;intro j;by_cases c:j∈L.map (·.2)
 ·obtain ⟨⟨x,n⟩,l,rfl⟩:=i0.mp c;refine (u6.mp l).elim λ k b=> ?_;have e:L[k]? =some (x,n):=by simp [cQ b.1,b.2]
  have d:=a▸b.1;have f:=cQ d;simp [uk i g e f,uk (by rw [List.map_reverse];exact List.pairwise_reverse.mpr (List.Pairwise.imp (λ h=>Ne.symm h) i)) (λ p m=>g p (Bh.mp m)) (z3 e) (a▸z3 f:vs.reverse[L.length-1-k]? =some _)]
 ·rw [lM c,lM (by simpa using c)]
section
variable{K:Ct}{fl:Bool}{Fs:List Addr}{c₀ c:Cx}{s₀ s:Shared}{σ:St}{r:R F}{r1:R V}
def aj.rev{P}{ν H}{h}{vs}:∀{ms},aj KA P ν H h vs ms->aj KA P ν H h vs.reverse ms.reverse:=by
 induction vs with
 | nil=>intro ms q;subst q;exact rfl
 | cons v vs a=>
  intro ms ⟨m,b,e,d,f⟩;subst e;simp [List.reverse_cons];exact aj.append (a f) {m,[],rfl,d,rfl}
noncomputable def OF(E:Expr):Str:=match E with
 | .Name x _=>x
 | _=> ""
noncomputable def NU(t:Tg):Nat:=match t with
 | .loc i=>i
 | .tup _=>0
noncomputable def dJ(es:List Expr)(a:List Tg):List (Str×Nat):=match a with
 | []=> []
 | t::a=>match es with
  | []=> []
  | e::es=>(OF e,NU t)::dJ es a
termination_by structural a
noncomputable def B9(es:List Expr)(a:List Tg):Bool:=match a with
 | []=>es.isEmpty
 | t::a=>match es with
  | []=>false
  | e::es=>CR t (λ ζ=>true) && (dZ e (λ ζ ζ=>true) && B9 es a)
termination_by structural a
def yl{a}:∀{es} {vs} {ρ ρ'},B9 es a=true->lL a vs ρ=some ρ'->ρ'=mO (dJ es a) vs ρ/\(∀p∈dJ es a,p.2<ρ.length)/\(dJ es a).length=vs.length:=by
 induction a with
 | nil=>
  intro es vs ρ ρ' d h;cases vs with
  | cons _ _=>contradiction
  | nil=>exact {(ar h).symm,λ ζ m=>absurd m kR,rfl}
 | cons t a k=>
  intro es vs ρ ρ' d h;cases es with
  | nil=>exact absurd d cK
  | cons e es=>
   cases vs with
   | nil=>contradiction
   | cons v vs=>
    revert h
    refine uc (λ t=>lL (t::a) _ ρ=some ρ'->ρ'=mO (dJ _ (t::a)) _ ρ/\(∀p∈dJ _ (t::a),p.2<ρ.length)/\(dJ _ (t::a)).length=(v::vs).length) (an d).1 λ i ζ h=>ab h λ l f j=>aR f λ g f=> ?_;cases f;have b:=k (an (an d).2).2 j;exact {b.1,λ p m=>(a0.mp m).elim (λ q=>q▸g) λ m=>sD▸b.2.1 p m,congrArg _ b.2.2}
def v8{b}{a}:∀{es},B9 es a=true->jf b a es=true->∀p∈dJ es a,b.lookup p.1=some p.2/\p.2∈fE a/\p.1∈gu es:=by
 induction a with
 | nil=>exact λ {es} _ _ p m=>absurd m kR
 | cons t a j=>
  intro es g h p m;cases es with
  | nil=>contradiction
  | cons e es=>
   have f:=an (an h).2
   revert m
   revert f
   refine uc (λ t=>ib b t e=true/\jf b a es=true->p∈dJ _ (t::a)->b.lookup p.1=some p.2/\p.2∈fE (t::a)/\p.1∈gu _) (an g).1 λ i ζ=>cz (λ e=>ib b _ e=true/\jf b a es=true->p∈dJ (e::es) _->b.lookup p.1=some p.2/\p.2∈fE _/\p.1∈gu (e::es)) (an (an g).2).1 λ x k ζ f m=> ?_
   rcases a0.mp m with m | m
   ·subst m;exact {bq f.1,.head _,.head _}
   ·have d:=j (an (an g).2).2 f.2 p m;exact {d.1,.tail _ d.2.1,.tail _ d.2.2}
end
def fa(Kf:Frag)(n:Str):Bool:=setOk Kf 322 n && setOk Kf 606 n
section
variable{A:Around}{s:Shared}{c:Cx}{σ σ':St}{E:VP}{Q:Unit->Shared->Prop}
def bc.upd{i}{a d}{o'}{e}{t}(g:Gd Kf Pw σ c s.heap)(hi:i<σ.length)(l:c.ν[i]? =some a)(m:c.μ[i]? =some d)(h:∀b,b≠a->b≠d->e.get? b=s.heap.get? b)(j:∃o,e.get? a=some o)(k:∃o,e.get? d=some o)
 (r:aN KA c s.heap c e->aS Pw c e a d o'):bc Kf Pw c s (σ.set i o') c {s with heap:=e,toks:=t}:=by
 have f:=g.upd hi l m h j k r;exact ⟨f.1,f.2,rfl,rfl,rfl⟩
def JY{o o'}{i}{n}{v}{D}{a B}{ks}{vs}(g:Gd Kf Pw σ c s.heap)(I:fa Kf n=true)(u:c.ν[i]? =some a)(x:σ[i]? =some o)(N:o.qx =some (B,ks,vs))(m:ks.length<=900)(q:Rp c s.heap v D)
 (M:∀y d,aS Pw c s.heap a d o->n4 Pw c y a d B (bB ks vs n v).1 (bB ks vs n v).2->aS Pw c y a d o') (k:∀s',bc Kf Pw c s (σ.set i o') c s'->Q () s'):wpAny M0 A (setAttr (.ref a) n D) Q E s:=by
 have H:=(di.mp x).1;have p:=cQ (g.lm▸H);have r:=g.obj i _ a _ x u p;obtain ⟨j,f,C,F,G,P⟩:n4 _ c _ a _ B ks vs:=r.ins N;refine uo g.bC (j.elim (λ e=>e▸(an I).1) λ e=>e▸(an I).2) C G m λ y t l h=> ?_;have z:=mP (k:=n) q (G.elim λ J q=>q.elim λ n q=>(cP.pairs q.2.1).2.2) P;exact k _ (.upd g H u p (λ b ζ L=>h b L) {_,(h a f).trans C} (l.elim λ J q=>q.elim λ n q=>⟨_,q.1⟩) λ st=>M y _ r {j,f,(h a f).trans C,(setM ks F n D).2,z.1▸l,aj.step g.ok st _ _ z.2})
def lN{n}{e v}{b d}(g:Gd Kf Pw σ c s.heap)(u:fa Kf n=true)(h:hO σ e n v=some σ')(x:Rp c s.heap e b)(q:Rp c s.heap v d)
 (k:∀s',bc Kf Pw c s σ' c s'->Q () s'):wpAny M0 A (setAttr b n d) Q E s:=
 ab h λ i j h=>ab h λ o m h=>ab h λ p t h=>aR h λ l h=>iq (λ b=>wpAny _ A (setAttr b n d) Q E s) j x λ a f=>
  JY (o':=.inst p.1 _ _) g u f m (by rw [O.OZ t];rfl) l q (λ ζ ζ ζ r=>r) (ar h▸k)
def qW{a:Str}{b}{r}{k}{m}(h:a≠k):stored ((a,b)::r) k m=(a,b)::stored r k m:=by
 unfold stored;rw [List.any_cons,A5];rw [qp h,Bool.false_or,if_neg h]
 split<;>rfl
theorem lI:∀{ks} {ms} {k} {m},ks.length=ms.length->ks.Nodup->stored (ks.zip ms) k m=(setM ks ms k m).1.zip (setM ks ms k m).2/\(setM ks ms k m).1.length=(setM ks ms k m).2.length
 | [],[],k,m,_,_=>And.symm ⟨rfl,rfl⟩
 | [],_::_,_,_,h,_=>And.symm ⟨rfl,rfl⟩
 | _::_,[],_,_,h,_=>And.symm ⟨rfl,rfl⟩
 | a::ks,b::ms,k,m,j,d=>by
  rw [nh] at d;by_cases q:a=k
  ·subst q;rw [show setM (a::ks) (b::ms) a m=(a::ks,m::ms) from if_pos rfl,u5];refine {?_,by assumption};unfold stored;rw [if_pos (by simp),A5];rw [Bo (g:=id) λ p f=>by rw [if_neg ((λ p f e=>d.1 (e▸(Ba f).1):∀p∈ks.zip ms,p.1≠a) p f)];rfl];simp
  ·have i:=lI (k:=k) (m:=m) (by simpa using j) d.2;rw [show setM (a::ks) (b::ms) k m=(a::(setM ks ms k m).1,b::(setM ks ms k m).2) from if_neg q];simp only [u5,dx];rw [qW q,i.1];exact {rfl,by simp_all}
def JZ{o o'}{i}{x}{t}{v}{C}{a}{ks}{vs}(g:Gd Kf Pw σ c s.heap)(l:c.ν[i]? =some a)(p:σ[i]? =some o)(S:o.tN =some (ks,vs))(y:ks.length<=1000)(q:Rp c s.heap v C)
 (P:∀r d,aS Pw c s.heap a d o->n5 Pw c r a d (bB ks vs x v).1 (bB ks vs x v).2->aS Pw c r a d o') (k:∀s',bc Kf Pw c s (σ.set i o') c s'->Q () s'):wpAny M0 A (PySem.setItem (.ref a) (.str x t) C) Q E s:=by
 have I:=(di.mp p).1;have j:=cQ (g.lm▸I);obtain ⟨u,G,H,T⟩:n5 _ c _ a _ ks vs:=(g.obj i _ a _ p l j).QP S;obtain ⟨L,h,U⟩:=H.dictOf;have z:=lI (k:=x) (m:=C) h (H.elim λ M q=>q.elim λ n q=>q.2.2.1);refine wpAny_setItem_pairs (by refine (?_:(x==x)=true);exact str_beq_self x) L (λ r B F=> ?_) (by simp only [A_,←h,uY];exact ag y ⋯);simp [z.1] at B;have f:=DictAt.of B U;rw [hI z.2,Bg (by simp_all)] at f;have e:=mP (k:=x) q h T;have J:∃o,r.get? a=some o:=f.elim λ M q=>q.elim λ n q=>⟨_,q.1⟩;refine k _ (.upd g I l j (λ b N ζ=>F.2 b N) J (u▸J) λ st=>P r _ (g.obj i _ a _ p l j) {u,(setM ks G x C).2,?_,aj.step g.ok st _ _ e.2});rw [e.1];exact f
def pX{W Z v}{D j m}(g:Gd Kf Pw σ c s.heap)(hu:A.units+10<cLine)(h:setItem σ W Z v=some σ')(q1:Rp c s.heap W D)(S:Rp c s.heap Z j)(q:Rp c s.heap v m)
 (k:∀s',bc Kf Pw c s σ' c s'->Q () s'):wpAny M0 A (PySem.setItem D j m) Q E s:=
 ab h λ i C h=>ab h λ o I h=>iq (λ D=>wpAny _ A (PySem.setItem D j m) Q E s) C q1 λ a B=>aO h
  (λ h=>ab h λ p J h=>ab h λ x hx h=>aR h λ F h=>bf (λ j=>wpAny _ A (PySem.setItem _ j m) Q E s) hx S λ t=>JZ (o':=.dict _ _) g B I (by rw [O.Pa J];rfl) F q (λ ζ ζ ζ r=>r) (ar h▸k))
  λ h1=>ab h1 λ p J h2=>aR h2 λ hn h3=>ab h3 λ l F h4=>ab h4 λ ks M h5=>d6 (λ j=>wpAny _ A (PySem.setItem _ j m) Q E s) F S λ N L P U T=>by
   cases O.xk J;cases sH.mp hn;have C:=(di.mp I).1;have z:=cQ (g.lm▸C);refine (g.obj i _ a _ I B z).elim λ u ka=> ?_;obtain ⟨_,dO,sm,e⟩:=x3.lg (o:=none) (ν:=c.ν) (H:=c.H) ka;subst e;refine wpAny_setItem_heap (by refine (?_:A.units+1<cLine);lia) (U.ju (eW M T)) dO (λ h' G y=> ?_) (by simp [xj]);have f:=cE.of G sm;exact k _ (ar h5▸.upd g C B z (λ b hb ζ=>y.2 b hb) f.there (u▸f.there) λ st=>{u,N,m,L,P,f,U.elim λ n e=>{n,(y.2 N λ q=>P (q▸g.ok.s _ (Cx.memν B))).trans e},eW M T,Rep.step g.ok st _ _ q})
inductive vR(σ:St)(w:V)(r:V):Bool->St->Prop
 | mk (i:Nat) (b:Bool) (toks:List V) (n:Nat) (rest more:List V) (n':Nat) (TK:List V) (hw:w.r? =some i) (ho:σ[i]? =some (.zip b toks n rest more)) (hr:r= .int n') (hv:toks.drop n=rest->toks.drop n'=TK):vR σ w r b (σ.set i (.zip b toks n' TK more))
def ZP(σ:St)(w b:V)(σ':St)(p:Operator):Prop:=∃(z:Bool) (n:Nat) (r:V),vR σ w r z σ'/\iV p (.int n) b=some r/\∀i o,w.r? =some i->σ[i]? =some o->∃e d a,o= .zip z e n d a
def ZP.of{w b:V}{i:Nat}{o:O}{z:Bool×List V×Nat×List V×List V}{j:Int}{p:Operator}{d:Nat}{a:List V}(hi:w.r? =some i)(f:σ[i]? =some o)(g:o.x8 =some z)(m:b.i? =some j)(e:some (σ.set i (.zip z.1 z.2.1 d a z.2.2.2.2))=some σ')
 (n:z.2.1.drop z.2.2.1=z.2.2.2.1->z.2.1.drop d=a) (l:iV p (.int z.2.2.1) (.int j)=some (.int d)):ZP σ w b σ' p:=
 {z.1,z.2.2.1,.int d,ar e▸.mk i z.1 z.2.1 z.2.2.1 z.2.2.2.1 _ d a hi (O.EL g▸f) rfl n,V.o6 m▸l,
  λ ζ ζ h k=>{_,_,_,(ar (k.symm.trans (ar (hi.symm.trans h)▸f))).trans (O.EL g)}}
def zx{p:Operator}{w b:V}{m:Str}(h:mG p σ w m b=some σ'):m= "at"/\ZP σ w b σ' p:=
 ab h λ i a k=>ab k λ o f l=>ab l λ z g n=>ab n λ j d r=>aR r λ u t=>{u,
  K4 _ t (λ h=>aO h (λ h=>aR h λ q h=> .of a f g d h (λ e=>by rw [←e,List.tail_drop]) (by rw [q];rfl)) λ h=>aR h λ q h=> .of a f g d h id (by rw [q];exact congrArg (λ x=>some (V.int x)) (Int.add_zero _)))
   λ h=>aR h λ q h=> .of a f g d h (λ ζ=>rfl) (by rw [q.1,Int.ofNat_sub q.2];rfl)}
def NG{x v}{e f}{b}(t:b=true)(g:Gd Kf Pw σ c s.heap)(B:fa Kf "at"=true)(h:vR σ x v b σ')(G:Rp c s.heap x e)(q:Rp c s.heap v f)
 (k:∀s',bc Kf Pw c s σ' c s'->Q () s'):wpAny M0 A (setAttr e "at" f) Q E s:=by
 cases h with
 | mk i b o n m l F j D u y C=>
  subst t y;exact iq (λ e=>wpAny _ A (setAttr e _ f) Q E s) D G λ a p=>JY (o':=.zip true _ F _ _) g B p u rfl ⋯ q (λ H d r z=>{{C r.1.1,r.1.2},z}) k
def NF{x v}{f j}{b}{t}(y:b=false)(g:Gd Kf Pw σ c s.heap)(h:vR σ x v b σ')(H:Rp c s.heap x f)(q:Rp c s.heap v j)
 (k:∀s',bc Kf Pw c s σ' c s'->Q () s'):wpAny M0 A (PySem.setItem f (.str "at" t) j) Q E s:=by
 cases h with
 | mk i b p n o m G l F B C D=>
  subst y C;exact iq (λ f=>wpAny _ A (PySem.setItem f _ j) Q E s) F H λ a u=>JZ (o':=.zip false _ G _ _) g u B rfl ⋯ q (λ I d r z=>{{D r.1.1,r.1.2},z}) k
end
def rl{a o}{n}{p}{b}{env}:swapsWith a (some (.Attribute o n p)) b env=pure false:=by cases a<;>rfl
def w6{a o i}{p}{b}{env}:swapsWith a (some (.Subscript o i p)) b env=pure false:=by cases a<;>rfl
section
variable{A:Around}{s:Shared}{c:Cx}{E:VP}{Q:VP}
def n3{op}{a b v}{f g}(h:iV op a b=some v)(i:Rp c s.heap a f)(j:Rp c s.heap b g)(k:∀m t,Rp c s.heap v m->Q m {s with toks:=t}):
 wpAny M0 A (inplaceOp op f g) Q E s:=by
 cases op
 case Add=>exact oA (λ a b=>wpAny _ A _ Q E s) h i j λ x y t u e=>AutoIntOps.iadd_0 (k _ _ (by rw [←ar e];exact ⟨_,rfl⟩))
 case Sub=>exact oA (λ a b=>wpAny _ A _ Q E s) h i j λ x y t u e=>AutoIntOps.isub_0 (k _ _ (by rw [←ar e];exact ⟨_,rfl⟩))
 all_goals exact aQ h
end
section
variable{K:Ct}{fl:Bool}{σ:St}{r:R F}{r1:R V}{rs:R (List V)}
noncomputable def gC(x:Str)(a:List Str)(es:List Expr):Bool:=match a with
 | []=>es.isEmpty
 | n::a=>match es with
  | []=>false
  | e::es=>i4 e (λ o m ζ=>dZ o λ y ζ=>y==x && n==m) && gC x a es
def lq{x}{a}:∀{es},gC x a es=true->es.all noStar=true/\a.length=es.length:=by
 induction a with
 | nil=>exact λ {es} h=>b4 (λ es=>es.all _=true/\[].length=es.length) h ⟨rfl,rfl⟩
 | cons n a b=>
  intro es h;cases es with
  | nil=>exact c4 h
  | cons e es=>
   exact fy (λ e=>(e::es).all _=true/\(n::a).length=(e::es).length) (an h).1 λ o m p ζ=>{(sy ..).trans (by rw [(b (an h).2).1];rfl),congrArg _ (b (an h).2).2}
def EG{B}{a}{j}{E}{x}{i}{w}(H:cI x=true)(t:K.Γ.lookup x=some i)(l:K.ow≠some i)(G:ay K.ρ i=some w)(g):∀{es} {vs} {mvs} {σ σ'} {s} {c} {Q},
 gC x g es=true->g.all (fa K.Kf)=true->jv σ w g vs=some σ'->Inv K fl B a j σ c s->aj KA K.w.params c.ν c.H s.heap vs mvs->(∀s',bc K.Kf K.w.params c s σ' c s'->Q () s')->wpAny (model K.prog K.w) K.A (assignInOrder (es.map λ e=>assign e K.env) mvs) Q E s:=by
 induction g with
 | nil=>
  intro es vs mvs σ σ' s c Q b A f I r k;refine b4 (λ es=>wpAny _ K.A (assignInOrder _ mvs) Q E s) b ?_;cases vs with
  | cons _ _=>exact aQ f
  | nil=>
   exact Bx (k s (ar f▸.refl I.h.g))
 | cons n g J=>
  intro es vs mvs σ σ' s c Q b A f I r k;cases es with
  | nil=>exact c4 b
  | cons e es=>
   cases vs with
   | nil=>exact aQ f
   | cons v vs=>
    refine r.elim λ m r=>r.elim λ P r=> ?_;simp only [r.1];refine ab f λ N C D=> ?_;have d:=an ((sy ..).symm.trans A);refine u_ (fy (λ e=>wpAny _ K.A (assign e _ m) _ E s) (an b).1 λ o L p h=>cz (λ o=>wpAny _ K.A (assign (.Attribute o L p) _ m) _ E s) h λ y q h=> ?_);simp [bq (an h).1,←bq (an h).2];refine af (i1 (jE I.h.er H t G λ S u=> ?_));have u:=u.rep l;exact af (eM (af (i1 (lN I.h.g d.1 C u r.2.1 λ s' p=>wpAny_release (J (an b).2 d.2 D (I.next p) (aj.step I.h.g.ok p.st _ _ r.2.2) λ z M=>k z (p.trans M))))))
def um{a}:∀{vs} {σ σ'} {w},jv σ w a vs=some σ'->a.length=vs.length:=by
 induction a with
 | nil=>
  intro vs σ σ' w h;cases vs with
  | nil=>rfl
  | cons _ _=>exact aQ h
 | cons n a b=>
  intro vs σ σ' w h;cases vs with
  | nil=>exact aQ h
  | cons v vs=>exact ab h λ ζ ζ h=>congrArg _ (b h)
end
section
variable{K:Ct}{fl:Bool}{Fs:List Addr}{c₀ c:Cx}{s₀ s:Shared}{σ:St}
def Ar{i}{l}{x}(I:Inv K fl Fs c₀ s₀ σ c s)(a:K.ow=some i)(d:K.Γ.lookup x=some i)(e:ay K.ρ i=some (.lst l)):∃mvs,SeqAt s.heap K.oa "list" mvs/\aj KA K.w.params c.ν c.H s.heap l mvs/\K.oa∈c.H/\K.oa∉c.S/\K.oa∉c.Fs:=by
 exact I.h.er.ns.casesOn λ m n k=>(k x i _ d e).casesOn λ h ζ r=>by
  cases r.own a with
  | lst _ mvs b g f=>exact ⟨mvs,g,f,b⟩
end
section
variable{K:Ct}{fl:Bool}{σ:St}{r:R F}{r1:R V}{rs:R (List V)}
def BD{i}{a}{g}{b c}{d s}{l}{Q E}(I:Inv K fl g b d σ c s)(f:bo K.Γ i a=true)(e:K.ow=some i)(j:ay K.ρ i=some (.lst l))
 (k:∀x,K.Γ.lookup x=some i->Q (.ref K.oa) s):wpAny (model K.prog K.w) K.A (eval a K.env) Q E s:=by
 obtain ⟨x,m,rfl,n,h⟩:=jK f;exact hW I.h f e j λ ζ ζ ζ=>k x h
def yX{d}{i}{a}(b:bo d i a=true):baseOk a=true:=by
 obtain ⟨x,c,rfl,e,f⟩:=jK b;rfl
def vM{pos}{a}{env}(h:noStar a=true):backTo pos (starEach [a] env)= [(false,eval a env)]:=by
 rw [f9 h];rfl
def aj.snoc{P}{ν H}{h}{l}{mvs}{v}{m}(r:aj KA P ν H h l mvs)(q:Rep KA P ν H h v m):aj KA P ν H h (l++ [v]) (mvs++ [m]):=aj.append' r {m,[],rfl,q,rfl}
def DA{o a}{i}{l}{f}{id}{d pos A}{H}{h c}{p s}(I:Inv K fl H h p σ c s)(u:bo K.Γ i o=true)(j:K.ow=some i)(v:ay K.ρ i=some (.lst l))(t:noStar a=true)(g:(d.endLine==pos.line)=true)
 (C:PlainAttrs "list") (D:Slot "list" f id) (G:typeOf (.builtin id)=pure (.type "method_descriptor"))
 {Q} {E} (k:∀x,K.Γ.lookup x=some i->wpAny (model K.prog K.w) K.A (callWith pos (.builtin id) [.ref K.oa] [(false,eval a K.env)] []) (λ ζ s=>Q .next s) E s):
 wpAny (model K.prog K.w) K.A (exec (.Expr (.Call (.Attribute o f d) [a] [] pos) A) K.env) Q E s:=by
 rw [exec_Expr _ _ A (by unfold interactive;rw [I.h.er.fk];rfl) (kM rfl)];refine af (eM (af (az (LU (cD (yX u)) (by rw [vM t];rfl) g (BD I u j v λ x y=> ?_)) (λ m B z=>wpAny_dropValue z) λ ζ ζ z=>z)));obtain ⟨J,⟨n,e⟩,_⟩:=Ar I j y v;refine ⟨"list",id,C,D,G,⟨_,e,rfl⟩,λ b q=>by injection q with q;subst q;exact ⟨_,e,rfl⟩,?_⟩;rw [vM t];exact k x y
end
noncomputable def ku(a:List (Str×NameKind))(x:Str):Bool:=a.lookup x==some .local || a.lookup x==some .cell
def w2{a}{x}(h:ku a x=true):a.lookup x=some .local∨a.lookup x=some .cell:=by
 simp [ku] at h;exact h
noncomputable def isNm(a:List (Str×Nat))(i:Nat):Expr->Bool
 | .Name y _=>a.lookup y==some i
 | _=>false
section
variable{K:Ct}{fl:Bool}{σ:St}{r:R F}{r1:R V}{rs:R (List V)}
def gD{T a}{pos}{Q}{E}{i}{d c}{e s}(I:Inv K fl i d e σ c s)(j:noStar T=true)(b:jL a=false)(f:gH K.κ [T] a=some none)
 (h:wpAny (model K.prog K.w) K.A (eval a K.env) (λ m s=>wpAny (model K.prog K.w) K.A (assign T K.env m) (λ ζ s=>Q .next s) E s) E s):wpAny (model K.prog K.w) K.A (exec (.Assign [T] a pos) K.env) Q E s:=by
 refine af (eM (af (oX (kM b) (af (az h (λ m g z=>af (oX (zI I.h.er.fk I.h.er.kn f) ?_)) λ ζ ζ z=>z)))));rw [(fN (by simp_all)).1];exact af (az z (λ ζ ζ y=>aD y) λ ζ ζ y=>y)
def mW(a:List (Str×NameKind))(T:Expr):Bool:=(c5 T).all (ku a)
end
section
variable{K:Ct}{fl:Bool}{σ:St}{r:R F}{r1:R V}{rs:R (List V)}
def SeqAt.kp{D}{c c'}{h b}{a}{T}{ms}(x:Kp D c h c' b)(n:a∉c.S)(f:a∉c.Fs)(d:a∉D)(j:SeqAt h a T ms):SeqAt b a T ms:=j.elim λ i e=>(x.keep a _ e n f λ m=>absurd m d).elim λ k g=>{i,g.2.s.b3 nofun▸g.1}
def qB{b}{s}{M}{A}{env}{Q E}(k:∀s',PK s s'->s'.heap.get? s.heap.objs.size=some {cls:=.type "list",data:=.seq #[]}->Q (.ref s.heap.objs.size) s'):wpAny M A (eval (.List [] b) env) Q E s:=af (eM (af (Calls.spliced_nil (oZ (k _ (.push s _ _) (dW _ rfl)) (m_ _)))))
def Hx{i}{ks}{vs}{x}{g}{a c}{d s}(I:Inv K fl g a d σ c s)(e:K.ow=some i)(f:K.Γ.lookup x=some i)(h:ay K.ρ i=some (.bH ks vs)):∃mvs,DictAt K.w.params s.heap K.oa ks mvs/\aj KA K.w.params c.ν c.H s.heap vs mvs/\K.oa∈c.H/\K.oa∉c.S/\K.oa∉c.Fs:=by
 exact I.h.er.ns.casesOn λ m n k=>(k x i _ f h).casesOn λ o ζ r=>by
  cases r.own e with
  | bH _ _ mvs b l j=>exact ⟨mvs,l,j,b⟩
end
section
variable{M:Model}{A:Around}{E:VP}{h:Heap}{g:Array GenState}{d:Drawn}{t:Nat}{os:OsState}
end
def eC.quiet{P}{d}{a c}{b s}{σ}{e}(f:jR Kf)(o:eC Kf P d a b σ c s)(st:Qt c s.heap e):eC Kf P d a b σ c {s with heap:=e}:=
 {o.g.quiet f st,o.st.trans st.st (o.fs▸o.sub),o.gens,o.os,o.ok₀,o.fs,o.sub}
def zc{P}{M}{A}{E}{c}{s}{q}{o i}{a}{Q}(m:c.ok)(r:Rep KA P c.ν c.H s.heap (.exc q o i) (.ref a))
 (k:∀f h,Qt c s.heap f->eS c f a h->(h=none∨h=some .none)->Q () {s with heap:=f}):wpAny M A (setFlight (.ref a) none) Q E s:=by
 have r:n8 _ _ _ _ _ _ _ _:=r;cases r with
 | mk _ d G B t u r v C n e D y g b=>
 have x:=(FZ.mp g).1;refine af (ql e rfl g ?_);cases b with
 | no=>exact aD (k _ _ (.refl ..) (.no _ _ _ e n g) (.inl rfl))
 | «at» T d F p b j z=>
  exact eS.C9 m e n g b j (Array.getElem?_eq_getElem z) λ f st l ζ=>k f _ st l (.inr rfl)
section
variable{K:Ct}{fl:Bool}{σ:St}{r:R F}{r1:R V}
end
section
structure eu(c:Cx)(h h':Heap)(wr:List Addr):Prop where
 gW:∀b∈wr,b∈c.H
 nS:∀b∈wr,b∉c.S
 bx:∀a o,a∉wr->h.get? a=some o->h'.get? a=some o
 here:∀b∈wr,∃o,h'.get? b=some o
variable{c:Cx}{h h':Heap}{wr:List Addr}
def eu.there(u:eu c h h' wr):∀b o,h.get? b=some o->∃o',h'.get? b=some o':=λ b o e=>by
 by_cases q:b∈wr
 ·exact u.here b q
 ·exact {o,u.bx b o q e}
def eu.tr(u:eu c h h' wr):Tr KA c.ν c.H h c.ν c.H h':=.same (λ ζ ζ e=>e) λ a o e n=>{n,u.bx a o (λ q=>n (u.gW a q)) e}
variable{P:Params}
def Rep.eZ(u:eu c h h' wr){v:V}{m:Value}(r:Rep KA P c.ν c.H h v m):Rep KA P c.ν c.H h' v m:=u.tr.rep r
def aj.eZ(u:eu c h h' wr){v:List V}{m:List Value}(r:aj KA P c.ν c.H h v m):aj KA P c.ν c.H h' v m:=u.tr.bN r
def aS.eZ(u:eu c h h' wr){a d:Addr}{o:O}(b:a∈c.S)(f:d∈c.S)(r:aS P c h a d o):aS P c h' a d o:=r.tr u.tr (λ x e=>u.bx a x (λ q=>u.nS a q b) e) λ x e=>u.bx d x (λ q=>u.nS d q f) e
def Gd.eZ{σ:St}(g:Gd Kf P σ c h)(u:eu c h h' wr):Gd Kf P σ c h':={g.ok,λ a o e=>u.bx a o λ q=>by rw [g.gS a (u.gW a q)] at e;contradiction (g.bC a o e),g.gS,λ a m=>(g.low a m).elim λ o b=>u.there a o b,g.ln,g.lm,g.cF,λ i o a d k f j=>(g.obj i o a d k f j).eZ u (Cx.memν f) (Cx.memμ j),g.apart}
def eu.tb(u:eu c h h' wr){v:Value}(z:fS c h v):fS c h' v:=gE.of (K:=KA) (X:=λ ζ=>False) z λ T o e b=>{b,o,u.bx T o (λ q=>b.1 (u.gW T q)) e,.same}
def aN.eZ{i:Cx}{d:Heap}(st:aN KA i d c h)(u:eu c h h' wr)(p:∀b∈wr,d.get? b=none):aN KA i d c h':=by
 have l:∀a o g,d.get? a=some o->h.get? a=some g->h'.get? a=some g:=λ a o g e j=>u.bx a g λ q=>by simp_all j
 exact {λ a o e n f=>(st.keep a o e n f).elim λ g k=>{g,l a o g e k.1,k.2.to λ v z=>u.tb z},λ a o e n f=>(st.o7 a o e n f).elim λ m j=>{m,l a o _ e j},λ a o e=>(st.there a o e).elim λ g j=>{g,l a o g e j},st.iG,st.jN,st.avoid,st.bz,st.grow,st.nG}
def eu.kp{D:List Addr}(u:eu c h h' wr)(f:∀b∈wr,b∈D):Kp D c h c h':=
 {λ a o e ζ ζ d=>{o,u.bx a o (λ q=>d (f a q) (u.gW a q)) e,.refl o},u.there,λ ζ m=> .inl m,λ ζ m=> .inl m,λ ζ m=> .inl m,λ ζ m=>m,λ ζ ζ e=>e}
def cO.eZ{l:List Env}(F:cO h c l)(u:eu c h h' wr)(a:∀b∈wr,b∉c.Fs):cO h' c l:=F.to λ L o m n e=>{m,n,o,u.bx L o (λ q=>a L q m) e,id}
section
variable{K:Ct}{fl:Bool}{Fs:List Addr}{c₀ c:Cx}{s₀ s:Shared}{σ:St}
def Inv.eZ{wr:List Addr}{h':Heap}{t:Nat}(I:Inv K fl Fs c₀ s₀ σ c s)(v:∀i,K.ow=some i->(ay K.ρ i).isSome=true->K.oa∉wr)(n:∀y a,K.env.cells.lookup y=some a->a∉wr)(u:eu c s.heap h' wr)(j:∀b∈wr,b∉c.Fs)(r:∀b∈wr,b∉K.D fl)(p:∀b∈wr,s₀.heap.get? b=none):Inv K fl Fs c₀ s₀ σ c {s with heap:=h',toks:=t}:=by
 have k:=I.h.er;refine {{I.h.rm,I.h.fo.eZ u j,I.h.g.eZ u,k.to u.tr (λ y a o l e=>u.there a o e) k.nl (λ m q=>q.imp λ o q=>q.imp λ B q=>q.imp λ A z=>{u.bx _ _ (λ q=>r _ q Ct.zv) z.1,z.2}) (λ y a o l e ζ x j=>{u.bx a o (n y a l) e,x,j}) λ i d g o e ζ b=>{u.bx _ o (v i d g) e,b},I.h.hl},I.st.eZ u p,I.gens,I.os,I.ok₀,I.fs,I.sub,I.dl,λ f y a d g=> ?_,I.xS,I.cl,I.xT,I.px,I.own,I.dh,I.low₀};exact (I.qE f y a d g).imp id λ q=>q.imp id λ q=>q.imp id λ q=>q.imp id λ q=>q.imp λ z q=>q.imp λ o z=>{u.bx a o (n y a d) z.1,z.2}
end
end
noncomputable def Cx.drop(c:Cx)(wr:List Addr):Cx:={c.ν,c.μ,c.Fs,c.H.filter λ a=> !wr.contains a}
def Cx.cX{c:Cx}{wr:List Addr}{a:Addr}:a∈(c.drop wr).H↔a∈c.H/\a∉wr:=by simp [Cx.drop]
structure bO(c:Cx)(h h':Heap)(wr:List Addr):Prop where
 gW:∀b∈wr,b∈c.H
 nS:∀b∈wr,b∉c.S
 nF:∀b∈wr,b∉c.Fs
 bx:∀a o,a∉wr->h.get? a=some o->h'.get? a=some o
section
variable{P:Params}{c:Cx}{h h':Heap}{wr:List Addr}
theorem bO.ok(u:bO c h h' wr)(ok:c.ok):(c.drop wr).ok:={λ a m=>Cx.cX.mpr {ok.s a m,λ q=>u.nS a q m},λ a m=>Cx.cX.mpr {ok.f a m,λ q=>u.nF a q m}}
def bO.k(u:bO c h h' wr):∀a o,a∉c.H->h.get? a=some o->h'.get? a=some o:=λ a o n e=>u.bx a o (λ q=>n (u.gW a q)) e
def bO.hh{c:Cx}{wr:List Addr}:∀a∈(c.drop wr).H,a∈c.H:=λ a m=>(Cx.cX.mp m).1
def bO.tr(u:bO c h h' wr):Tr KA c.ν c.H h (c.drop wr).ν (c.drop wr).H h':=.same (λ ζ ζ e=>e) λ a o e n=>{λ m=>n (bO.hh _ m),u.k a o n e}
def bO.rep(u:bO c h h' wr){v:V}{m:Value}(r:Rep KA P c.ν c.H h v m):Rep KA P (c.drop wr).ν (c.drop wr).H h' v m:=u.tr.rep r
def bO.bN(u:bO c h h' wr){v:List V}{m:List Value}(r:aj KA P c.ν c.H h v m):aj KA P (c.drop wr).ν (c.drop wr).H h' v m:=u.tr.bN r
def bO.Rj(u:bO c h h' wr){a d:Addr}{o:O}(b:a∈c.S)(f:d∈c.S)(r:aS P c h a d o):aS P (c.drop wr) h' a d o:=r.tr u.tr (λ x e=>u.bx a x (λ q=>u.nS a q b) e) λ x e=>u.bx d x (λ q=>u.nS d q f) e
def bO.gd{σ:St}(u:bO c h h' wr)(g:Gd Kf P σ c h):Gd Kf P σ (c.drop wr) h':=by
 refine {u.ok g.ok,λ a o e=> ?_,λ a m=>g.gS a (bO.hh a m),λ a m=> ?_,g.ln,g.lm,g.cF,λ i o a d j b f=>u.Rj (Cx.memν b) (Cx.memμ f) (g.obj i o a d j b f),g.apart}
 ·exact u.bx a o (λ q=>by rw [g.gS a (u.gW a q)] at e;cases e) (g.bC a o e)
 ·obtain ⟨k,l⟩:=Cx.cX.mp m;obtain ⟨o,e⟩:=g.low a k;exact {o,u.bx a o l e}
def bO.tb(u:bO c h h' wr){v:Value}(z:fS c h v):fS (c.drop wr) h' v:=gE.of (K:=KA) (X:=λ ζ=>False) z λ T o e b=>{{λ m=>b.1 (bO.hh _ m),b.2},o,u.k T _ b.1 e,.same}
variable{c₀:Cx}{h₀:Heap}
def bO.ug(u:bO c h h' wr)(st:aN KA c₀ h₀ c h)(l:∀b∈wr,h₀.get? b=none)(lo:∀b∈wr,b∉c₀.H):aN KA c₀ h₀ (c.drop wr) h':=by
 have j:∀a o d,h₀.get? a=some o->h.get? a=some d->h'.get? a=some d:=λ a o d e g=>u.bx a d λ q=>by grind g
 exact {λ a o e n f=>(st.keep a o e n f).elim λ d i=>{d,j a o d e i.1,i.2.to λ v z=>u.tb z},λ a o e n f=>(st.o7 a o e n f).elim λ k g=>{k,j a o _ e g},λ a o e=>(st.there a o e).elim λ d g=>{d,j a o d e g},st.iG,st.jN,λ a m=>st.avoid a (bO.hh a m),λ a m=>Cx.cX.mpr {st.bz a m,λ q=>lo a q m},st.grow,st.nG}
def bO.kp{D:List Addr}(u:bO c h h' wr)(st:Kp D c₀ h₀ c h)(l:∀b∈wr,h₀.get? b=none)(lo:∀b∈wr,b∉c₀.H):Kp D c₀ h₀ (c.drop wr) h':=by
 have k:∀a o g,h₀.get? a=some o->h.get? a=some g->h'.get? a=some g:=λ a o g e j=>u.bx a g λ q=>by grind j
 exact {λ a o e n f d=>(st.keep a o e n f d).elim λ g i=>{g,k a o g e i.1,i.2.to λ v z=>u.tb z},λ a o e=>(st.there a o e).elim λ g j=>{g,k a o g e j},st.iG,st.jN,λ a m=>st.avoid a (bO.hh a m),λ a m=>Cx.cX.mpr {st.bz a m,λ q=>lo a q m},st.grow}
def bO.fr{l:List Env}(u:bO c h h' wr)(F:cO h c l):cO h' (c.drop wr) l:=F.to λ L o m n e=>{m,n,o,u.bx L o (λ q=>u.nF L q m) e,id}
end
section
variable{K:Ct}{fl:Bool}{Fs:List Addr}{c₀ c:Cx}{s₀ s:Shared}{σ:St}
def Inv.drop{wr:List Addr}{p:Heap}{t:Nat}(I:Inv K fl Fs c₀ s₀ σ c s)(x:∀i,K.ow=some i->(ay K.ρ i).isSome=true->K.oa∉wr)(j:∀y d,K.env.cells.lookup y=some d->d∉wr)(u:bO c s.heap p wr)(r:∀b∈wr,b∉K.D fl)(n:∀b∈wr,s₀.heap.get? b=none):Inv K fl Fs c₀ s₀ σ (c.drop wr) {s with heap:=p,toks:=t}:=by
 have k:=I.h.er;have v:=λ q=>r _ q Ct.zv;exact {{I.h.rm,u.fr I.h.fo,u.gd I.h.g,k.to u.tr (λ y d o l e=>{o,u.bx d o (j y d l) e}) k.nl (λ m q=>q.imp λ o q=>q.imp λ D q=>q.imp λ C z=>{u.bx _ _ v z.1,z.2}) (λ y d o l e ζ B A=>{u.bx d o (j y d l) e,B,A}) λ i g h o e ζ b=>{u.bx _ o (x i g h) e,Cx.cX.mpr {b.1,x i g h},b.2},I.h.hl},u.ug I.st n (λ b q m=>(I.low₀ b m).elim λ o e=>aQ ((n b q).symm.trans e)),I.gens,I.os,I.ok₀,I.fs,I.sub,{I.dl.1,Cx.cX.mpr ⟨I.dl.2,v⟩},λ f y d g h=>(I.qE f y d g h).imp id λ q=>{Cx.cX.mpr {q.1,j y d g},q.2.imp id λ q=>q.imp id λ q=>q.imp λ z q=>q.imp λ o z=>{u.bx d o (j y d g) z.1,z.2}},I.xS,I.cl,I.xT,I.px,I.own,λ a m=>{Cx.cX.mpr {(I.dh a m).1,λ q=>r a q m},(I.dh a m).2},I.low₀}
end
structure Src(A:Around)(I:Addr)(wr fp:List Addr)(target:Expr)(l:List V)(TC:List Value)(l0:List V)(Val:Nat->Heap->Value->Heap->Prop)(St:Nat->Heap->Prop):Prop where
 frame:∀i h h',St i h->(∀b,b∈wr∨b∈fp->∀o,h.get? b=some o->h'.get? b=some o)->St i h'
 live:∀i h,St i h->∀b∈wr,∃o T,h.get? b=some o/\o.cls= .type T/\T≠"traceback"
 next:∀i (s:Shared) (Q:VP) (E:VP),i<l.length->St i s.heap->
  (∀v h' tk,Val i s.heap v h'->St (i+1) h'->(∀b o,b∉wr->s.heap.get? b=some o->h'.get? b=some o)->Q v {s with heap:=h',toks:=tk})->
  wpAny M0 A (pyNext (.ref I)) (λ r s₁=>∃v,r=some v/\wpAny M0 A (letOwnedTupleGo target (.ref I) v) (λ ζ TB=>Q v TB) E s₁) E s
 done:∀(s:Shared) (Q:Option Value->Shared->Prop) (E:VP),St l.length s.heap->
  (∀h' tk,(∀b o,b∉wr->s.heap.get? b=some o->h'.get? b=some o)->Q none {s with heap:=h',toks:=tk})->wpAny M0 A (pyNext (.ref I)) Q E s
 self:∀i (s:Shared) (Q:VP) (E:VP),St i s.heap->Q (.ref I) s->wpAny M0 A (pyIter (.ref I)) Q E s
 rep:∀(P:Params) (c:Cx) i h v h' x,l[i]? =some x->(∀a∈c.H,∃o,h.get? a=some o)->aj KA P c.ν c.H h' l0 TC->Val i h v h'->Rep KA P c.ν c.H h' x v
theorem aj.at{P:Params}{ν H:List Addr}{h:Heap}:∀{vs:List V} {mvs:List Value} {i:Nat} {x:V} {m:Value},aj KA P ν H h vs mvs->vs[i]? =some x->mvs[i]? =some m->Rep KA P ν H h x m
 :=by
 intro d
 induction d with
 | nil=>
  intro _ _ _ _ _ a _;exact by simp_all
 | cons v vs c=>
  intro mvs i x m r a b
  exact by
   obtain ⟨g,j,rfl,e,f⟩:=r;cases i with
   | zero=>simp at a b;subst a b;exact e
   | succ i=>exact c f (by simpa using a) (by simpa using b)
def Dr{a:Expr}{b v:Value}(h:plainT a=true):letOwnedTupleGo a b v=pure ():=by cases a<;>first | rfl | cases h
section
variable{A:Around}{I:Addr}{fp:List Addr}{n:Nat}{P0:Nat->Value->Prop}{St:Nat->Heap->Prop}{target:Expr}{l l0:List V}{TC:List Value}
def ix{wr:List Addr}(W:Walks prog w A I fp wr n P0 St)(g:n=l.length)(p:plainT target=true)(live:∀i h,St i h->∀b∈wr,∃o T,h.get? b=some o/\o.cls= .type T/\T≠"traceback")
 (rep:∀(P:Params) (c:Cx) i v a x,l[i]? =some x->aj KA P c.ν c.H a l0 TC->P0 i v->Rep KA P c.ν c.H a x v):
 Src A I wr fp target l TC l0 (λ i ζ v ζ=>P0 i v) St where
 frame:=λ i h a st e=>W.frame i h a st λ b k=>e b (.inr k)
 live:=live
 next:=λ i s Q E m st d=>W.item i s _ _ (g▸m) st λ v a u j f e=>{v,rfl,by rw [Dr p];exact aD (d v a u j f e)}
 done:=λ s Q E st d=>W.done s Q E (g▸st) d
 self:=W.self
 rep:=λ P c i h v a x t ζ r q=>rep P c i v a x t r q
variable{ax:Addr}{mvs:List Value}
def src_list(f:A.handled=none)(d:ax≠I)(g:mvs.length=l.length)(j:plainT target=true):
 Src A I [I] [I,ax] target l mvs l (λ i ζ v ζ=>mvs.toArray[i]? =some v) (λ i h=>h.IsListIter I ax i/\h.IsList ax mvs.toArray):=
 ix (Walks.list f I ax d _) (by simpa using g) j (λ i h st b e=>by rw [cu] at e;subst e;exact st.1.elim λ o a=>{o,_,a.1,a.2.1,⋯}) λ P c i v p x m r k=>aj.at r m (by simpa using k)
def src_tuple(f:A.handled=none)(d:ax≠I)(g:mvs.length=l.length)(j:plainT target=true):
 Src A I [I] [I,ax] target l mvs l (λ i ζ v ζ=>mvs.toArray[i]? =some v) (λ i h=>h.IsTupleIter I ax i/\h.IsTuple ax mvs.toArray):=
 ix (Walks.tuple f I ax d _) (by simpa using g) j (λ i h st b e=>by rw [cu] at e;subst e;exact st.1.elim λ o a=>{o,_,a.1,a.2.1,⋯}) λ P c i v p x m r k=>aj.at r m (by simpa using k)
def iw(x:Str):(ig x).length=x.cps.size:=by simp [ig]
variable{x:Str}
def lK{i:Nat}{v:Value}{y:V}{P:Params}{c:Cx}{h:Heap}(a:(ig x)[i]? =some y)(b:SignAt x i v):Rep KA P c.ν c.H h y v:=by
 obtain ⟨k,u,e,rfl⟩:=b;simp only [ig,sE,Array.getElem?_toList,e,Option.map_some,Option.some.injEq] at a;subst a;exact ⟨u,rfl⟩
variable{t:Tok}
def zL(e:A.handled=none)(f:plainT target=true):
 Src A I [I] [I] target (ig x) [] [] (λ i ζ v ζ=>SignAt x i v) (λ i h=>h.IsStrIter I "str_ascii_iterator" x t i):=
 ix (Walks.strAscii e I x t) (iw x).symm f (λ i h st b d=>by rw [cu] at d;subst d;exact st.elim λ o a=>{o,_,a.1,a.2.1,⋯}) λ P c i v k y j ζ g=>lK j g
def CY(e:A.handled=none)(f:plainT target=true):
 Src A I [I] [I] target (ig x) [] [] (λ i ζ v ζ=>SignAt x i v) (λ i h=>h.IsStrIter I "str_iterator" x t i):=
 ix (Walks.strWide e I x t) (iw x).symm f (λ i h st b d=>by rw [cu] at d;subst d;exact st.elim λ o a=>{o,_,a.1,a.2.1,⋯}) λ P c i v k y j ζ g=>lK j g
def src_range(g:A.handled=none){a:Int}(j:plainT target=true):
 Src A I [I] [I] target (cp a n) [] [] (λ i ζ v ζ=>∃t,v= .int (a+i*1) t) (λ i h=>IsRangeIter h I (a+(i:Nat)*1) ((n:Int)-(i:Nat)) 1):=
 ix (Walks.range g I a 1 n) (by simp [cp]) j (λ i h st b e=>by rw [cu] at e;subst e;exact {_,_,st,rfl,⋯}) λ P c i v m y d ζ k=>by
  obtain ⟨t,rfl⟩:=k;simp only [cp,sE] at d;by_cases f:i<n
  ·rw [List.getElem?_range f] at d;simp only [Option.map_some,Option.some.injEq] at d;subst d;exact {t,by rw [Int.mul_one]}
  ·rw [FY (by rw [FQ];exact xp f)] at d;cases d
theorem sR:∀{l:List V} {a i:Nat},(e8 a l)[i]? =l[i]?.map λ v=> .tup [.int ((a+i:Nat):Int),v]
 | [],_,_=>rfl
 | v::l,a,0=>rfl
 | v::l,a,i+1=>(sR (l:=l) (a:=a+1) (i:=i)).trans (by rw [show a+1+i=a+(i+1) by exact kU a i];rfl)
def nO:∀{l:List V} {a:Nat},(e8 a l).length=l.length
 :=by
 intro l0
 induction l0 with
 | nil=>
  intro _;exact rfl
 | cons v l b=>
  intro a;exact congrArg (· +1) b
def pe{F e:Addr}{G:List Expr}{k:Nat}{pos:Pos}(D:Draws prog w A.in1 F fp n P0 St)(W:e≠F)(L:e∉fp)(hif:F∈fp)(hn:n=l.length)(C:∀i h,St i h->∃o T,h.get? F=some o/\o.cls= .type T/\T≠"traceback")
 (rep:∀(P:Params) (c:Cx) i v p x,l[i]? =some x->aj KA P c.ν c.H p l0 TC->P0 i v->Rep KA P c.ν c.H p x v):
 Src A e [e,F] (e::fp) (.Tuple G k pos) (e8 0 l) TC l0 (λ i h v p=>∃T t x,v= .ref T/\h.get? T=none/\SeqAt p T "tuple" [.int i t,x]/\P0 i x) (λ i h=>(∃d,IsEnum h e F i d)/\St i h) where
 frame:=λ i h p a M=>by
  obtain ⟨⟨d,g⟩,u⟩:=a;exact {{d,M e (.inl (List.mem_cons_self)) _ g},D.frame _ _ _ u λ b f o x=>M b (.inr (List.mem_cons_of_mem _ f)) o x}
 live:=λ i h a b f=>by
  obtain ⟨⟨d,g⟩,u⟩:=a;simp only [a0,kR,or_false] at f
  rcases f with rfl | rfl
  ·exact {_,_,g,rfl,⋯}
  ·exact C _ _ u
 next:=λ i s Q E hi a H=>by
  obtain ⟨⟨d,g⟩,u⟩:=a;exact wpAny_pyNext_enum_itemD D g u (by rw [hn,←nO];exact hi) W L λ x p tk U ho Z hT hsz M=>{_,rfl,wpAny_letOwnedTupleGo_enum ho λ S J j=>H _ S _ {_,_,_,rfl,aE _,{0,(j.2 _ (Nat.ne_of_gt (fY g))).trans hT},U} {{x,by simpa using J},D.frame _ _ _ Z λ b f o y=>(j.2 b λ q=>L (q▸f)).trans y} λ b o f y=>(j.2 b λ B=>f (by simp [B])).trans (M b o (λ B=>f (by simp [B])) (λ B=>f (by simp [B])) y)}
 done:=λ s Q E a H=>by
  obtain ⟨⟨d,g⟩,u⟩:=a;rw [nO,←hn] at g u;exact wpAny_pyNext_enum_endD D g u λ p N=>H p _ λ b o f y=>N b o (λ B=>f (by simp [B])) y
 self:=λ i s Q E a H=>by
  obtain ⟨⟨d,g⟩,_⟩:=a;exact FU g H
 rep:=λ P c i h v p x N lo r hv=>by
  obtain ⟨T,t,y,rfl,fr,sq,U⟩:=hv;rw [sR] at N;obtain ⟨z,hz,rfl⟩:=Option.map_eq_some_iff.mp N;refine {T,_,rfl,(λ m=>by obtain ⟨o,eo⟩:=lo T m;rw [fr] at eo;cases eo),sq,_,_,rfl,{t,by simp},_,_,rfl,rep P c i y p z hz r U,rfl}
end
section
variable{K:Ct}{σ:St}{ri:R (List V)}{r1:R V}{rs:R (List V)}
end
def kq{a b}(d:idx a=true)(c:idx b=true)(f:b-a<=1000000):Builtin.Range.small a b 1=true/\Builtin.Range.rangeSize a b 1=((b-a).toNat:Int):=by
 have e:Builtin.Range.rangeSize a b 1=(b-a).toNat:=by
  unfold Builtin.Range.rangeSize;rw [if_pos ⋯];by_cases h:a<b
  ·rw [if_pos h,Int.ediv_one,Int.sub_add_cancel];exact (Int.toNat_of_nonneg (Int.sub_nonneg_of_le (Int.le_of_lt h))).symm
  ·rw [if_neg h,Int.toNat_of_nonpos (Int.sub_nonpos_of_le (Int.not_lt.mp h))];rfl
 refine {?_,e};unfold Builtin.Range.small;rw [e,if_pos ⋯];simp only [Builtin.Range.rangeFitsLong,qq,Bool.or_eq_true,decide_eq_true_eq];exact {{{{iF d,iF c},⋯},Int.le_trans ⋯ (xr _),Int.lt_of_le_of_lt (qn.mpr (Int.toNat_le.mpr f):_<=(1000000:Int)) ⋯},.inr (by rw [Int.sub_self,Int.add_zero];exact iF c)}
section
variable{K:Ct}{σ:St}{ri:R (List V)}{r1:R V}{rs:R (List V)}
end
def Ct.Own(K:Ct):Prop:=∃a L,K.l=K.env::a/\K.env.frame=some L
section
variable{K:Ct}{fl:Bool}{Fs:List Addr}{c₀ c:Cx}{s₀ s:Shared}{σ:St}{r:R F}{r1:R V}{ri:R (List V)}
def x_{A}{h}{i g}{env}{R}{s}
 (m:wpAny M0 A (isTrue h env (eval h env)) (λ b j=>
   if b then wpAny M0 A (execs i env) (λ f a=>match f with
    | .next | .cont=>codeAny M0 A (.whileLoop h i g env) R a
    | .brk=>R (.ok .next) a
    | .ret v=>R (.ok (.ret v)) a) (notedBy M0 A env λ e s'=>R (.error e) s') j
   else wpAny M0 A (execs g env) (λ f a=>R (.ok f) a) (notedBy M0 A env λ e s'=>R (.error e) s') j)
   (notedBy M0 A env λ e s'=>R (.error e) s') s):codeAny M0 A (.whileLoop h i g env) R s:=by
 refine codeAny_of_tree (wpAny_noted (af (az m (λ b j k=> ?_) λ ζ ζ l=>l)));cases b with
 | false=>
  exact af (az k (λ f a d=>aD d) λ ζ ζ l=>l)
 | true=>
  refine af (az k (λ f a d=> ?_) λ ζ ζ l=>l);cases f with
  | next=>exact aD ⟨rfl,d⟩
  | cont=>exact aD ⟨rfl,d⟩
  | brk=>exact aD d
  | ret v=>exact aD d
end
noncomputable def Cx.d7(c:Cx)(wr:List Addr):Cx:={c.ν,c.μ,c.Fs,wr++c.H}
def bc.d7{P}{c}{s s'}{σ}{wr}(g:Gd Kf P σ c s.heap)(k:∀b o,s.heap.get? b=some o->s'.heap.get? b=some o)(f:s'.gens=s.gens)(h:s'.os=s.os)(e:∀b∈wr,s.heap.get? b=none)(d:∀b∈wr,∃o,s'.heap.get? b=some o):bc Kf P c s σ (c.d7 wr) s':=by
 have a:∀b∈(c.d7 wr).H,b∈c.H∨s.heap.get? b=none/\∃o,s'.heap.get? b=some o:=λ b m=>by
  rcases e6.mp m with m | m
  ·exact .inr {e b m,d b m}
  ·exact .inl m
 have st:aN KA c _ (c.d7 wr) _:=aN.y1 k rfl rfl (λ b m=>sJ _ m) (λ b m=>(a b m).imp id (·.1)) λ b m=> .inl m;exact {g.grow k st rfl rfl {λ b m=>sJ _ (g.ok.s b m),λ b m=>sJ _ (g.ok.f b m)} a λ b m=> .inl m,st,rfl,f,h}
def Kp.exact{D}{c c'}{h g}(x:Kp D c h c' g){b}{o}{T}(e:h.get? b=some o)(n:b∉c.S)(f:b∉c.Fs)(d:b∈D->b∉c.H)(j:o.cls= .type T)(i:T≠"traceback"):g.get? b=some o:=by
 refine (x.keep b o e n f d).elim λ k a=> ?_;rw [a.1,a.2.exact j i]
def Kp.b3{D}{c c'}{h g}(x:Kp D c h c' g){b}{o}(e:h.get? b=some o)(n:b∉c.S)(f:b∉c.Fs)(d:b∈D->b∉c.H)(i:∀j,o.data≠.fields j):g.get? b=some o:=by
 refine (x.keep b o e n f d).elim λ k a=> ?_;rw [a.1,a.2.s.b3 i]
section
variable{K:Ct}{fl:Bool}{σ:St}{r:R F}{r1:R V}{ri:R (List V)}
structure fT(K:Ct)(fl:Bool)(c:Cx)(s:Shared)(wr fp:List Addr)(TC:List Value)(l0:List V):Prop where
 w:∀b∈wr,b∈c.H/\b∉c.S/\b∉c.Fs/\b∉K.D fl
 f:∀b∈fp,b∈wr∨(b∉c.H/\∃T mvs,SeqAt s.heap b T mvs)
 r:aj KA K.w.params c.ν c.H s.heap l0 TC
def fT.kp{wr B}{g}{C l}{c c'}{s s'}{St}{z}{I}{h}{A}{ρ}{oa}{i}(m:fT K fl c s wr B g C)(p:Src A I wr B h l g C z St)(x:c.ok)(D:∀a∈K.D fl,a∈c.H)(st:St i s.heap)
 (j:Kp (K.D fl) c s.heap c' s'.heap) (M:oa=K.oa∨s.heap.get? oa=none):fT {K with ρ:=ρ,oa:=oa} fl c' s' wr B g C/\St i s'.heap:=by
 have f:∀b∈wr,∀o,s.heap.get? b=some o->s'.heap.get? b=some o:=λ b d o e=>by
  obtain ⟨N,T,u,G,E⟩:=p.live i _ st b d;rw [e] at u;cases u;exact j.exact e (m.w b d).2.1 (m.w b d).2.2.1 (λ q=>absurd q (m.w b d).2.2.2) G E
 refine {{λ b d=> ?_,λ b d=> ?_,j.bN x D m.r},p.frame i _ _ st λ b d o e=>by
  rcases d with d | d
  ·exact f b d o e
  ·rcases m.f b d with d | ⟨n,T,v,k,u⟩
   ·exact f b d o e
   ·rw [e] at u;cases u
    exact j.b3 e (x.no n) (x.cF n) (λ ζ=>n) nofun}
 ·refine (p.live i _ st b d).elim λ o q=>q.elim λ T y=> ?_;obtain ⟨H,J,L,t⟩:=m.w b d;refine {j.bz _ H,j.gQ y.1 J,j.jA y.1 L,λ q=> ?_};cases fl with
  | false=>exact t q
  | true=>
   have q:b∈K.env.locals::oa::K.cs:=q;have t:b∉K.env.locals::K.oa::K.cs:=t;simp [not_or] at q t
   rcases q with q | q | q
   ·exact t.1 q
   ·lia
   ·exact t.2.2 q
 ·rcases m.f b d with d | ⟨n,T,v,k,e⟩
  ·exact .inl d
  ·exact .inr {j.yK e n,T,v,k,j.b3 e (x.no n) (x.cF n) (λ ζ=>n) nofun}
def qJ{ρ}{oa}{h:Heap}(b:oa=K.oa∨h.get? oa=none):∀a∈Ct.D {K with ρ:=ρ,oa:=oa} fl,a∈K.D fl∨h.get? a=none:=λ a m=>by
 cases fl with
 | false=>exact .inl m
 | true=>
  rcases a0.mp m with rfl | m
  ·exact .inl (.head _)
  ·rcases a0.mp m with rfl | m
   ·rcases b with rfl | h
    ·exact .inl (.tail _ (.head _))
    ·exact .inr h
   ·exact .inl (.tail _ (.tail _ m))
end
section
noncomputable def bF(env:Env):List (Str×NameKind)->List (Str×Addr)
 | []=> []
 | (n,k)::r=>cond (k== .free) ((env.cells.lookup n).toList.map λ a=>(n,a)) []++bF env r
variable{env:Env}{scope:Scope}
def zk(h:∀p∈scope.names,p.2= .free->(env.cells.lookup p.1).isSome=true):closureFor scope env=pure (bF env scope.names).reverse:=by
 have:=(by
  intro l
  induction l with
  | nil=>intro b _;rfl
  | cons p l i=>
   intro b f;rw [sC];have c:=λ b=>i b λ q m=>f q (.tail _ m);cases d:p.2==NameKind.free with
   | true=>
    obtain ⟨a,e⟩:=nB.mp (f _ (.head _) (gx d));simp only [if_true,(by unfold cellOf;rw [e]:cellOf env p.1=pure a),pure_bind];rw [c];show _=pure ((cond (p.2== .free) ((env.cells.lookup p.1).toList.map λ a=>(p.1,a)) []++bF env l).reverse++b);rw [d,e];simp
   | false=>
    simp only [Bool.false_eq_true,if_false,pure_bind];rw [c];show _=pure ((cond (p.2== .free) ((env.cells.lookup p.1).toList.map λ a=>(p.1,a)) []++bF env l).reverse++b);rw [d];rfl:∀(l:List _) (b:List _),(∀p∈l,p.2= .free->(env.cells.lookup p.1).isSome=true)->
   (forIn l b λ (x:Str×NameKind) r=>if x.2== .free then do let a ←cellOf env x.1;pure (ForInStep.yield ((x.1,a)::r)) else pure (ForInStep.yield r))=pure ((bF env l).reverse++b)) _ [] h
 rw [ng] at this;refine Eq.trans ?_ (congrArg (λ x=>x>>=λ g=>pure g) this |>.trans rfl)
 congr 1
theorem fK:∀{l:List (Str×NameKind)} {x:Str} {a:Addr},(x,a)∈bF env l->env.cells.lookup x=some a/\(x,NameKind.free)∈l
 | (n,k)::r,x,a,h=>by
  have h:(x,a)∈cond (k== .free) ((env.cells.lookup n).toList.map λ a=>(n,a)) []++bF env r:=h
  rcases e6.mp h with h | h
  ·cases c:k==NameKind.free with
   | false=>rw [c] at h;cases h
   | true=>
    rw [c] at h;cases d:env.cells.lookup n with
    | none=>rw [d] at h;cases h
    | some b=>rw [d] at h;cases cu.mp h;cases gU c;exact {d,.head _}
  ·exact {(fK h).1,.tail _ (fK h).2}
theorem mz:∀{l:List (Str×NameKind)} {x:Str} {a:Addr},env.cells.lookup x=some a->(x,NameKind.free)∈l->(x,a)∈bF env l
 | (n,k)::r,x,a,h,m=>by
  show (x,a)∈cond (k== .free) ((env.cells.lookup n).toList.map λ a=>(n,a)) []++bF env r;rw [e6]
  rcases a0.mp m with e | m
  ·simp_all
  ·exact .inr (mz h m)
variable{x:Str}{a:Addr}
def td{l:List (Str×Addr)}(m:(x,a)∈l)(u:∀b,(x,b)∈l->b=a):l.lookup x=some a:=by
 induction l with
 | nil=>cases m
 | cons p l c=>
  obtain ⟨n,b⟩:=p;rw [kQ];cases q:x==n with
  | true=>
   have:=by simpa using q
   subst this;simp [u b (.head _)]
  | false=>
   rcases a0.mp m with e | m
   ·lia
   ·exact c m λ b d=>u b (.tail _ d)
variable{l:List (Str×NameKind)}
def nV(h:env.cells.lookup x=some a)(m:(x,NameKind.free)∈l):(bF env l).reverse.lookup x=some a:=
 td (Bh.mpr (mz h m)) λ b c=>by
  have:=(fK (Bh.mp c)).1;rw [h] at this;exact ar this.symm
def nW(h:(bF env l).reverse.lookup x=some a):env.cells.lookup x=some a/\(x,NameKind.free)∈l:=
 fK (Bh.mp (mem_of_lookup h))
variable{κ:List (Str×NameKind)}
def vZ(b:env.scope.kind= .function)(c:env.scope.names=κ):(relabel scope env).names=dH κ scope.names:=by
 unfold relabel dH;simp only [b];refine Bo λ p ζ=> ?_;simp only [(by unfold Env.kindOf;rw [c]:env.kindOf p.1=κ.lookup p.1)];cases p.2<;>simp
theorem i_:∀{c:List (Str×NameKind)} {x:Str},(∀p∈c,p.2≠.cell)->(dH κ c).lookup x=some .cell->(x,NameKind.free)∈c/\κ.lookup x=some .cell
 | [],x,_,h=>by simp [dH] at h
 | (n,k)::r,x,d,h=>by
  have h:List.lookup x ((if (k== .free && κ.lookup n==some _)=true then (n,NameKind.cell) else (n,k))::dH κ r)=some _:=h;by_cases q:x=n
  ·subst q;by_cases z:(k== .free && κ.lookup x==some .cell)=true
   ·simp_all
   ·rw [if_neg z] at h;simp only [kQ,ff,Option.some.injEq] at h;exact absurd h (d _ (.head _))
  ·have b:=i_ (λ p m=>d p (.tail _ m)) (by
    split at h<;>(rw [kQ,(beq_false_of_ne q:(x==n)=false)] at h;exact h))
   exact {.tail _ b.1,b.2}
theorem iU{q:Str->Bool}:∀{c:List (Str×Nat)} {x:Str} {i:Nat},(c.filter λ p=>q p.1).lookup x=some i->c.lookup x=some i/\q x=true
 | [],_,_,h=>by simp_all
 | (n,j)::c,x,i,h=>by
  rw [List.filter_cons] at h;by_cases e:x=n
  ·subst e;cases b:q x with
   | true=>simp only [b,if_true] at h;simp at h;subst h;simp [b]
   | false=>
    simp only [b] at h;have:=(iU h).2;rw [b] at this;cases this
  ·have d:(x==n)=false:=beq_false_of_ne e
   have f:=iU (by
    split at h
    ·rw [kQ,d] at h;exact h
    ·exact h)
   exact {by rw [kQ,d];exact f.1,f.2}
def tq{A B:List (Str×Nat)}{i:Nat}(h:(A++B).lookup x=some i):(x,i)∈A∨B.lookup x=some i:=by
 induction A with
 | nil=>exact .inr h
 | cons p A b=>
  rw [List.cons_append,kQ] at h;cases e:x==p.1 with
  | true=>rw [e] at h;have:=by simpa using e
          subst this;cases h;exact .inl (.head _)
  | false=>rw [e] at h;exact (b h).imp (.tail _) id
def xQ:∀{is:List Nat} {ρ:En} {j:Nat},ay (ll is ρ) j=if j∈is then none else ay ρ j
 :=by
 intro d
 induction d with
 | nil=>
  intro ρ j;exact rfl
 | cons i is c=>
  intro ρ j
  exact by
   have e:ll (i::is) ρ=ll is (ρ.set i _):=rfl;rw [e,c];by_cases h:j∈is
   ·simp [h]
   ·by_cases q:j=i
    ·subst q;simp only [h,a0];unfold ay;by_cases b:j<ρ.length
     ·rw [qs b];rfl
     ·rw [FY (by simp_all)];rfl
    ·simp only [h,a0,q,or_self];unfold ay;rw [ny (Ne.symm q)]
end
def vY{M}{A}{E}{env}:∀(a:List _) {s} {Q},Q false s->
 wpAny M A (forIn a false λ c r=>if r=true then do let e ←isTrue c env (eval c env);pure (ForInStep.yield e) else pure (ForInStep.yield r)) Q E s
 :=by
 intro d
 induction d with
 | nil=>
  intro _ _ h;exact aD h
 | cons c a b=>
  intro s Q h
  exact by
   rw [sC];exact b h
def tj{A}{R}{s}{u a iter}{C}{p}{pos}{F t}{env}{E'}(G:∀e s,E' e s->notedBy M0 A env (λ e s'=>R (.error e) s') e s)(I:Nat->Shared->Prop)
 (D:∀n s,I n s->wpAny M0 A (pyNext F) (λ r s₁=>match r with
   | none=>R (.ok .next) s₁
   | some v=>wpAny M0 A (letOwnedTupleGo a F v) (λ ζ d=>wpAny M0 A (assign a env v) (λ ζ j=>
    wpAny M0 A (forIn C true λ c r=>if r=true then do let ok ←isTrue c env (eval c env);pure (ForInStep.yield ok) else pure (ForInStep.yield r)) (λ ok f=>
     if ok=true then wpAny M0 A (eval u env) (λ x k=>
      wpAny M0 A (PySem.call (.builtin "list.append") [t,x]) (λ ζ l=>∃m,m<n/\I m l) E' k) E' f
     else ∃m,m<n/\I m f) E' j) E' d) E' s₁) E' s)
 (n) (h:I n s):codeAny M0 A (.compLoop (.ListComp u [{a,iter,C,0}] p pos) 0 F t env) R s:=by
 refine codeAny_loop rfl I (λ n s H=>(wpAny_noted (az ?_ (λ ζ ζ q=>q) G):wpAny _ A _ _ _ s)) n h;rw [compTurn_list];refine af (eM (af (az (D n s H) (λ r s₁ g=> ?_) λ ζ ζ b=>b)));cases r with
 | none=>exact aD g
 | some v=>
  refine af (az g (λ ζ d o=>af (az o (λ ζ j y=>af (az y (λ ok f i=> ?_) λ ζ ζ b=>b)) λ ζ ζ b=>b)) λ ζ ζ b=>b);cases ok with
  | false=>exact aD ⟨rfl,i⟩
  | true=>
   exact af (af (az i (λ x k z=>af (az z (λ ζ l B=>aD (aD ⟨rfl,B⟩)) λ ζ ζ b=>b)) λ ζ ζ b=>b))
section
mutual
theorem uj:∀(t) {v} {ρ ρ'} {j},j∉bw t->dR t v ρ=some ρ'->ay ρ' j=ay ρ j
 | .loc i,v,ρ,ρ',j,a,h=>by
  rw [←ar (eg h).2];unfold ay;rw [ny λ (q:i=j)=>a (q▸.head _)]
 | .tup b,v,ρ,ρ',j,a,h=>ab h λ c ζ h=>r9 b a h
theorem r9:∀(b:List Tg) {c:List V} {ρ ρ':En} {j:Nat},j∉fE b->lL b c ρ=some ρ'->ay ρ' j=ay ρ j
 | [],[],ρ,ρ',j,a,h=>by rw [ar h]
 | [],_::_,ρ,ρ',j,a,h=>aQ h
 | t::b,[],ρ,ρ',j,a,h=>aQ h
 | t::b,v::c,ρ,ρ',j,a,h=>ab h λ f d e=>(r9 b (λ m=>a (sJ _ m)) e).trans (uj t (λ m=>a (sI _ m)) d)
end
section
variable{K:Ct}{σ:St}{ri:R (List V)}{c:Cx}{s:Shared}
end
end
section
variable{K:Ct}{fl:Bool}{σ:St}{ri:R (List V)}{r:R V}
def bc.O_{P}{c d}{s s'}{f}{C}{g}(j:∀a∈c.H,∃o,s.heap.get? a=some o)(p:bc Kf P c s f d s')(k:C∈d.H)(t:C∉d.S)(l:C∉d.Fs)(i:s.heap.get? C=none)(v:Heap.SameBut C s'.heap g):
 bc Kf P c s f (d.drop [C]) {s' with heap:=g}/\bO d s'.heap g [C]:=by
 have e:∀b∈[C],b=C:=λ b m=>cu.mp m;have u:bO d _ g [C]:={λ b m=>e b m▸k,λ b m=>e b m▸t,λ b m=>e b m▸l,λ a o n h=>(v.2 a λ q=>n (by simp [q])).trans h};exact ⟨{u.gd p.good,u.ug p.st (λ b m=>e b m▸i) λ b m q=>by simp [e b m] at q;obtain ⟨o,h⟩:=j C q;rw [i] at h;contradiction,p.fs,p.gens,p.os},u⟩
noncomputable def EZ(b:List (Str×NameKind))(x:Str)(a pos:Pos)(sc:Scope):Bool:=b.lookup x==some .local && a.line==pos.line && !(sc.names.any λ (n,k)=>n==x && (k== .local || k== .cell))
end
section
variable{K:Ct}{fl:Bool}{σ:St}{r:R F}{r1:R V}
def Inv.quiet{d}{a c}{b s}{e}(f:jR K.Kf)(I:Inv K fl d a b σ c s)(st:Qt c s.heap e):Inv K fl d a b σ c {s with heap:=e}:=
 I.next {I.h.g.quiet f st,st.st,rfl,rfl,rfl}
def Gb(n k:Str)(e:Expr):Bool:=i4 e λ o m ζ=>dZ o (λ y ζ=>y==n) && m==k
def zg{n k}{e}(C:Expr->Prop)(h:Gb n k e=true)(g:∀p q,C (.Attribute (.Name n p) k q)):C e:=
 fy C h λ o m q h=>cz (λ o=>C (.Attribute o m q)) (an h).1 λ y p e=>bq e▸bq (an h).2▸g p q
def hK(n:Str)(f:Str)(g:List Stmt):Bool:=cI n && u1 g λ s=>Dh s λ e ζ=>uS e λ e=>fU e λ d ζ ζ=>match d with
 | t::d=>yg t f && (match d with
  | a::d=>Gb n "why" a && u2 d λ b c=>Gb n "row" b && Gb n "column" c
  | []=>false)
 | []=>false
def zJ{n o}{y}(C:List _->Prop)(h:hK n o y=true)(g:cI n=true->∀l m q r1 u p v x j k f,C [.Return (some (.Tuple [.Constant (.str o) l m,.Attribute (.Name n q) "why" r1,.Attribute (.Name n u) "row" p,.Attribute (.Name n v) "column" x] j k)) f]):C y:=
 c6 C (an h).2 λ s c=>ur (λ s=>C [s]) c λ e f c=>e9 (λ e=>C [.Return e f]) c λ e c=>eD (λ e=>C [.Return _ f]) c λ i j k c=>by
  cases i with
  | nil=>exact c4 c
  | cons t i=>
   cases i with
   | nil=>exact c4 (an c).2
   | cons a i=>
    have z:=an (an c).2
    exact uf (λ t=>C [.Return (some (.Tuple (t::a::i) j k)) f]) (an c).1 λ l m=>zg (λ a=>C [.Return (some (.Tuple (.Constant _ l m::a::i) j k)) f]) z.1 λ q r1=>
     qP (λ i=>C [.Return (some (.Tuple (.Constant _ l m:: .Attribute _ _ r1::i) j k)) f]) z.2 λ b d z=>zg (λ b=>C [.Return (some (.Tuple [.Constant _ l m,.Attribute _ _ r1,b,d] j k)) f]) (an z).1 λ u p=>
      zg (λ d=>C [.Return (some (.Tuple [.Constant _ l m,.Attribute _ _ r1,.Attribute _ _ p,d] j k)) f]) (an z).2 λ v x=>g (an h).1 l m q r1 u p v x j k f
end
noncomputable abbrev o9:List Value:= [PQ.R 31,PQ.T "Exception",PQ.T "BaseException",PQ.T "object"]
noncomputable abbrev XO:Obj:=excClassObj "BadText" "BadText" 64 63 [PQ.R 31] o9 true [] [] false none none (some (PQ.R 47)) none (some (PQ.S "BadText" 235)) (some (PQ.S "BadText" 243)) (some (PQ.B true)) "Exception.__new__"
def rS:aL.lookup 64=some XO:=⋯
def MV:o9.contains (.type "Exception")=true:=rfl
def Th:o9.contains (.type "AttributeError")=false:=rfl
def Tf:o9.contains (.type "NameError")=false:=rfl
section
variable{M:Model}{A:Around}{E:VP}{h:Heap}{g:Array GenState}{d:Drawn}{t:Nat}{os:OsState}
def DM{s:Shared}{b:List Value}{Q:Unit->Shared->Prop}(c:s.heap.get? 64=some XO)
 (i:Q () s):wpAny M A (checkBuiltinCall "Exception.__new__" {.ref 64::b,[]}) Q E s:=by
 have Fn:=PySem.F.excBase_Exception;have a:(Value.ref 64::o9).contains (.type "Exception")=true:=by rw [xt,MV,Bool.or_true]
 have f:=Fn.noStar
 delta checkBuiltinCall
 rw [Fn.newKind]
 dsimp only
 rw [Fn.newSplit,Fn.newRow]
 dsimp only
 repeat (first | refine oY c ?_ | (refine Br c ?_;rw [a]) | refine wpAny_staticBase_exc c ?_ | refine wpAny_madeBy_exc c ?_ | (refine wpAny_ite_false (by rw [bne_self_eq_false];rfl) ?_) | wp_step)
 exact i
end
section
variable{A:Around}{E:VP}{R:Result->Shared->Prop}{h:Heap}{g:Array GenState}{d:Drawn}{t:Nat}{os:OsState}{rest:List Value}
def Lo(c:h.get? 64=some XO)
 (l:R (.ok (.ret (.ref (h.objs.size+1)))) ⟨(h.push {cls:=.type "tuple",data:=.seq rest.toArray}).push
   {cls:=.ref 64,data:=.fields #[.ref h.objs.size,.none,.none,.none,.bool false,.none]},g,d,t,os⟩) (k:rest.length<=sizeLine):
 codeAny M0 A (.builtin "Exception.__new__" {.ref 64::rest,[]}) R ⟨h,g,d,t,os⟩:=by
 have Fn:=PySem.F.excBase_Exception;have j:=Fn.ends;have f:(Value.ref 64::o9).contains (.type "Exception")=true:=by rw [xt,MV,Bool.or_true]
 have e:(Value.ref 64::o9).contains (.type "AttributeError")=false:=by rw [xt,Th];rfl
 have i:(Value.ref 64::o9).contains (.type "NameError")=false:=by rw [xt,Tf];rfl
 refine codeAny_builtinAt Fn.entry ?_;unfold Builtin.«BaseException.__new__»;refine PySem.wpAt_bind ?_;show PySem.wpAt _ _ _ (stack>>=_) _ _ _;refine PySem.wpAt_bind (PySem.wpAt_stack λ p b=>PySem.wpAt_of_wpAny ?_)
 wp_walk
 refine PySem.wpAt_of_wpAny ?_;rw [Fn.owner]
 repeat (first | with_reducible refine wpAny_madeHere_exc Fn.canon c ?_ | with_reducible refine oY c ?_ | (with_reducible refine Br c ?_;first | rw [f] | rw [e] | rw [i]) | wp_step)
 show R _ _;rw [xo];exact l
def HK{l:Addr}{s:Obj}{Q:VP}(f:h.get? 64=some XO)
 (z:Looks M0 h (typeLookup (.ref 64) "__init__") (some (.ref l))) (n:h.get? l=some s) (p:s.cls= .type "function") (k:rest.length<=sizeLine)
 (v:wpAny M0 (A.under (.builtin "type.__call__" {.ref 64::rest,[]})) (PySem.call (.ref l) (.ref (h.objs.size+1)::rest)) (λ r s'=>r= .none/\Q (.ref (h.objs.size+1)) s') E
   ⟨(h.push {cls:=.type "tuple",data:=.seq rest.toArray}).push {cls:=.ref 64,data:=.fields #[.ref h.objs.size,.none,.none,.none,.bool false,.none]},g,d,t,os⟩):
 wpAny M0 A (PySem.call (.ref 64) rest) Q E ⟨h,g,d,t,os⟩:=by
 have B:=tc_lookup;have C:=tc_bind (.ref 64);have D:(⟨h,g,d,t,os⟩:Shared).TypeIs (.ref 64) "type":=⟨_,f,rfl⟩;refine su (codeAny_of_tree ?_);show wpAny _ _ (callAny (.ref 64) _) _ _ _
 repeat (any_goals (first | assumption | with_reducible refine oY f ?_ | wp_step))
 refine {rfl,?_};refine codeAny_call_builtin_at (Code.quiet_builtin _ (by decide+kernel)) entry_typeCall (wpAny_check_type_call_sub f ?_);have Fn:=PySem.F.excBase_Exception
 repeat (first | with_reducible refine oY f ?_ | with_reducible refine wpAny_madeBy_exc f ?_ | wp_step)
 refine codeAny_call_builtin_code (Code.quiet_builtin _ Fn.quiet) (DM f ?_);refine Lo f ?_ k;show wpAny _ _ _ _ _ _;have q:∀b o,h.get? b=some o->((h.push {cls:=.type "tuple",data:=.seq rest.toArray}).push {cls:=.ref 64,data:=.fields #[.ref h.objs.size,.none,.none,.none,.bool false,.none]}).get? b=some o:=λ b o e=>b9 _ (b9 _ e);have j:=q _ _ f;have c:=q _ _ n
 have i:((h.push {cls:=.type "tuple",data:=.seq rest.toArray}).push
  {cls:=.ref 64,data:=.fields #[.ref h.objs.size,.none,.none,.none,.bool false,.none]}).get? (h.objs.size+1)=some
  {cls:=.ref 64,data:=.fields #[.ref h.objs.size,.none,.none,.none,.bool false,.none]}:=by heap_get
 have m:(Value.ref 64::o9).contains (.ref 64)=true:=by simp
 unfold isInstance
 repeat (first | with_reducible refine oY i ?_ | wp_step)
 show wpAny _ _ (isSubtype (.ref 64) (.ref 64)) _ _ _;refine Br j ?_;rw [m]
 repeat (first | with_reducible refine oY i ?_ | wp_step)
 show wpAny _ _ (typeLookup (.ref 64) _) _ _ _;refine z _ _ _ _ q ?_;refine i1 (af ?_);unfold bindSpecial;refine af (wpAny_typeOf (T:="function") ⟨_,c,p⟩ ?_);rw [if_pos ⋯];refine aD (af (az v (λ r s' y=> ?_) λ ζ ζ x=>x));obtain ⟨rfl,u⟩:=y
 wp_walk
 exact u
end
end PM
end
section
open PySem PySem.W PyProof.Rows PySem.Calls PySem.SeqAt Builtin Builtin.ObjectAttr
namespace PM
structure XK(Kf:Frag):Prop where
 sa:findIn Kf (.ref 64) "__setattr__"=some (some (.builtin "object.__setattr__"))
 mo:mroIn Kf 64 (.type "object")=some true
 no:∀n∈(["why","at","row","column"]:List Str),findIn Kf (.ref 64) n=some none
 cls:∃cd,clsIn Kf 64=some cd/\cd.hasDict=true/\cd.mro= [.ref 64,.ref 31,.type "Exception",.type "BaseException",.type "object"]
section
variable{A:Around}{E:VP}{s:Shared}{R:Result->Shared->Prop}{x:Addr}{tk:Tok}
def w3{k:Obj}{od:Option Obj}{a:Str}{v:Value}(K:XK Kf)(X:Kf.In s.heap)(I:InstAt s.heap x k 64 od)(j:a∈(["why","at","row","column"]:List Str))
 (h:wpAny M0 A.in1 (storeInOwnDict (.ref x) (.ref 64) (.str a tk) a v false)
   (λ d s'=>match d with | .done f=>R (.ok f) s' | .again c'=>c'.quiet=true/\codeAny M0 A c' R s') (λ e s'=>R (.error e) s') s):
 codeAny M0 A (.call (.builtin "object.__setattr__") {[.ref x,.str a tk,v],[]}) R s:=by
 have c:=PySem.F.store_object;refine K.cls.elim λ i g=>codeAny_call_builtin c.slot.plain c.entry (@check_slot _ _ _ s _ _ _ _ _ [] _ c.kind c.split (I.type.andThen (looks_mroIn X K.mo)) (c.args _ _ v) ?_);rw [osa_eq,refuse_eq];refine af (af (I.type.here (af (((looks_clsIn X g.1).andThen .now:Looks _ _ _ i.mro).here ?_))));rw [g.2.2,refuseLoop_ref,refuseLoop_ref,PySem.F.store_Exception.passes];exact aD (af (I.type.here (af ((looks_findIn X (K.no _ j)).here (af (Looks.here .now h))))))
variable{ks:List Str}{mvs:List Value}{n:Str}{m:Value}
def qC{d:Addr}{Q:PySem.Fin->Shared->Prop}(l:DictAt Pw s.heap d ks mvs)(p:ks.length<=900)
 (k:∀e t,DictAt Pw e d (setM ks mvs n m).1 (setM ks mvs n m).2->(∀b,b≠d->e.get? b=s.heap.get? b)->e.objs.size=s.heap.objs.size->Q (.done (.ret .none)) {s with heap:=e,toks:=t}):wpAny M0 A (storeInDict d (.str n tk) n m) Q E s:=by
 refine l.elim λ h q=>q.elim λ ep a=> ?_
 have o:h.length=ks.length:=by
  rw [(cP.pairs a.2.1).1.length,A_,←(cP.pairs a.2.1).2.2,uY]
 refine (wK (n:=n) (t:=s.toks) (m:=m) (ep:=ep) a.2.1 a.2.2.1).elim λ i q=>q.elim λ g c=>af (aD (af (af (af (wpAny_askSetting (aD (af (wpAny_mkText (af (A8 a.1 ?_))))))))))
 dsimp only
 rw [aRefKeyMayBeTheName_at,(by
  simp [(kC n a.2.1).2]:(!h.toArray.any _ && h.toArray.any _)=false)]
 have j:=qr (Obj.putName n _ _ m) a.1 (by rw [c.1];rfl);rw [c.1] at j;exact wpAny_updatePart a.1 (af (wpAny_lookBehind j (pastItsLine_dict (by rw [e7,sizeLine_eq];exact ag (ag c.2.2.2 (ez (o▸p))) ⋯)) (aD (k _ _ ⟨i,g,j,c.2.1,c.2.2.1,a.2.2.2⟩ (λ b q=>nA _ _ (Ne.symm q)) (jM ..)))))
def Iv{C:Array Value}{sl:Array (Option Value)}{od:Option Addr}{Q:Unit->Shared->Prop}(K:XK Kf)(X:Kf.In s.heap)(G:(s.heap.objs.size==sysModules)=false)(z:n∈(["why","at","row","column"]:List Str))(h:s.heap.get? x=some {.ref 64,od,.fields C,sl})
 (F:(od=none/\ks= []/\mvs= [])∨∃d,od=some d/\d≠x/\DictAt Pw s.heap d ks mvs) (B:ks.length<=900)
 (k:∀f t d,f.get? x=some {.ref 64,some d,.fields C,sl}->d≠x->(od=some d∨s.heap.get? d=none)->DictAt Pw f d (setM ks mvs n m).1 (setM ks mvs n m).2->(∀b o,b≠x->od≠some b->s.heap.get? b=some o->f.get? b=some o)->s.heap.objs.size<=f.objs.size->Q () {s with heap:=f,toks:=t}):wpAny M0 A (setAttr (.ref x) n m) Q E s:=by
 refine K.cls.elim λ H g=> ?_
 rcases F with ⟨rfl,rfl,rfl⟩ | ⟨d,rfl,l,j⟩
 ·have I:InstAt _ x _ 64 none:=⟨h,rfl,rfl,trivial⟩;refine set_plain X I K.sa (w3 K X I z (af (aD (af (af (A8 h (af (Looks.here (looks_clsIn X g.1) ?_))))))));rw [g.2.1];have a:(s.heap.push {cls:=.type "dict",data:=.dict #[]}).get? x=some _:=b9 _ h;have i:=jG (fY h);refine af (wpAny_alloc' (af (wpAny_update' a (aD (qC (ks:= []) (mvs:= []) {[],0,(Heap.get?_update_ne _ _ _ _ i.symm).trans (Heap.get?_push_at rfl rfl),trivial,kO,G} B λ f t r c p=>k f t _ ((c x i).trans (qr _ a rfl)) i.symm (.inr (aE _)) r (λ b o y ζ e=> ?_) ?_)))))
  ·exact (c b (jG (fY e))).trans ((nA _ _ (Ne.symm y)).trans (b9 _ e))
  ·simp_all
 ·refine id j.elim λ J q=>q.elim λ D v=> ?_;have I:InstAt _ x _ 64 (some {.type _,none,.dict _ D,#[]}):=⟨h,rfl,rfl,v.1⟩;refine set_plain X I K.sa (w3 K X I z (af (aD (af (af (A8 h (af (Looks.here (looks_clsIn X g.1) ?_))))))));rw [g.2.1];exact aD (qC j B λ f t r c p=>k f t d ((c x l.symm).trans h) l (.inl rfl) r (λ b o y u e=>(c b λ q=>u (by rw [q])).trans e) (by rw [p];exact bV _))
end
end PM
end
section
open PySem PySem.W PyProof.Rows PySem.Calls PySem.SeqAt PySem.StrLaws
namespace PM.N
noncomputable def ij(a:List (Str×Value))(p:Str×Value):List (Str×Value):=if (a.lookup p.1).isNone then a++ [p] else a
def y6{M}{A}{E}{s}(f)(a:∀x t,f x t=pure (.yield (ij t x))){Q}:∀(L:List _) (i),Q (L.foldl ij i) s->wpAny M A (forIn L i f) Q E s:=by
 intro L
 induction L with
 | nil=>exact λ i q=>aD q
 | cons x L b=>exact λ i q=>by rw [sC,a];exact af (aD (b _ q))
def ru{x y:Str}{v:Value}{t}(h:x≠y):List.lookup x ((y,v)::t)=t.lookup x:=by simp [kQ,beq_eq_false_iff_ne.mpr h]
def rx{x:Str}{v:Value}{t}:List.lookup x ((x,v)::t)=some v:=by simp
def Iq{p}{m}:∀{L s:List _},(∀q∈L,q.1≠p)->L.foldl ij ((p,m)::s)=(p,m)::L.foldl ij s:=by
 intro L
 induction L with
 | nil=>exact λ ζ=>rfl
 | cons q L a=>
  intro s h
  rw [List.foldl_cons,List.foldl_cons,(by
   unfold ij;rw [ru (h q (.head _))]
   split<;>rfl:ij _ q=(p,m)::ij s q),a λ q m=>h q (.tail _ m)]
def fold_all:∀{f:List Str} {mvs g},f.Nodup->mvs.length<=f.length->g.length<=f.length->f.length<=mvs.length+g.length->((f.drop (f.length-g.length)).zip g).foldl ij (f.zip mvs)=f.zip (mvs++g.drop (mvs.length+g.length-f.length)):=by
 intro f
 induction f with
 | nil=>exact λ {mvs g} _ _ _ _=>by simp
 | cons p f u=>
  intro mvs g k o s r;have k:=nh.mp k
  have n:∀{m} {ms i:List _},ms.length<=f.length->i.length<=f.length->f.length<=ms.length+i.length->((f.drop _).zip i).foldl _ _=(p::f).zip (m::(ms++i.drop _)):=λ a b c=>by
   rw [Iq ((λ t q m e=>k.1 (e▸t _ (Ba m).1):∀{l} {g},(∀q∈l,q∈f)->∀q∈l.zip g,q.1≠p) λ q m=>List.mem_of_mem_drop m),u k.2 a b c,u5]
  by_cases j:g.length<=f.length
  ·cases mvs with
   | nil=>exact absurd (ag r (ag (b1 (jH _)) j)) (FX _)
   | cons m ms=>
    rw [show (p::f).length-g.length=f.length-g.length+1 from Nat.succ_sub j,show (m::ms).length+g.length-(p::f).length=ms.length+g.length-f.length by simp [dx,uZ,Nat.succ_sub_succ]];exact n (iD o) j (iD (ag r (b1 (uZ _ _))))
  ·cases g with
   | nil=>exact absurd (m_ _) j
   | cons d g=>
    have e:=Bb (iD s) (xp j |>λ h=>Bk (Nat.lt_of_not_le j));simp only [show (p::f).length-(d::g).length=0 by simp only [dx,dx,e,Nat.sub_self],List.drop_zero,u5,List.foldl_cons];have z:f.drop (f.length-g.length)=f:=by simp_all
    cases mvs with
    | nil=>
     have:=n (m:=d) (ms:= []) (m_ _) (b1 e) (by simp_all);rw [z,List.zip_nil_right] at this;rw [show [].length+(d::g).length-(p::f).length=0 by simp only [List.length_nil,jH,dx,dx,e,Nat.sub_self]];rw [show [].length+g.length-f.length=0 by simp only [List.length_nil,jH,e,Nat.sub_self]] at this;exact this
    | cons m ms=>
     have:=n (m:=m) (iD o) (b1 e) (by simp_all);rw [z] at this;rw [u5,show ij _ _=(p,m)::f.zip ms by unfold ij;rw [rx];rfl,this];rw [show (m::ms).length+(d::g).length-(p::f).length=ms.length+g.length-f.length+1 by simp only [dx,e,Nat.add_sub_cancel]];rfl
def Me:∀{a:List Str} {ms:List Value} {pre},a.Nodup->a.length=ms.length->(∀p∈a,pre.lookup p=none)->a.filterMap (λ n=>((pre++a.zip ms).lookup n).map (n,·))=a.zip ms:=by
 intro a
 induction a with
 | nil=>exact λ ζ ζ ζ=>rfl
 | cons p a g=>
  intro ms pre b f c;cases ms with
  | nil=>contradiction
  | cons m ms=>
   rw [LV (by rw [(by simp only [List.lookup_append,c p (.head _),u5,rx];rfl:(pre++(p::a).zip (m::ms)).lookup p=some m)];rfl)];have:=g (pre:=pre++ [(p,m)]) (nh.mp b).2 (sx f) λ x d=>by simp only [List.lookup_append,c x (.tail _ d),ru λ (e:x=p)=>(nh.mp b).1 (e▸d)];rfl
   rw [jJ] at this;exact congrArg _ this
def AL:∀{a:List Str} {mvs:List Value} {k} {x},x∈a.take k->k<=mvs.length->((a.zip mvs).lookup x).isSome=true:=by
 intro a
 induction a with
 | nil=>exact λ {mvs k x} h _=>absurd (List.mem_of_mem_take h) kR
 | cons p a c=>
  intro mvs k x h b;cases k with
  | zero=>exact absurd h kR
  | succ k=>cases mvs with
   | nil=>exact absurd b (Bt _)
   | cons m d=>
    simp only [u5];by_cases e:x=p
    ·rw [e,rx];rfl
    ·rw [ru e];exact c ((a0.mp h).resolve_left e) (iD b)
def DN{a:List Str}{mvs b:List Value}(d:b.length<=a.length)(f:a.length<=mvs.length+b.length):(a.take (a.length-(b.drop (b.length-a.length)).length)).filter (λ n=>((a.zip mvs).lookup n).isNone)= []:=List.filter_eq_nil_iff.mpr λ x c e=>by
 rw [Nat.sub_eq_zero_of_le d] at c;have z:=AL c (Nat.sub_le_of_le_add f);rw [sH.mp e] at z
 contradiction
def AH{a b n:Nat}(c:a<=n)(d:n<=a+b):a+(b-(a+b-n))=n:=(Nat.le.dest c).elim λ k e=>by
 subst e;rw [Nat.add_sub_add_left,Nat.sub_sub_self (LY d)]
def HM{a:List Str}{mvs b:List Value}(c:b.length<=a.length)(d:a.length<=mvs.length+b.length):¬(!((a.take (a.length-(b.drop (b.length-a.length)).length)).filter (λ n=>((a.zip mvs).lookup n).isNone)).isEmpty)=true:=λ h=>by
 rw [DN c d] at h
 contradiction
def Ey{a}{mvs b:List _}(f:a.Nodup)(d:mvs.length<=a.length)(c:b.length<=a.length)(e:a.length<=mvs.length+b.length):(a++ []).filterMap (λ n=>(List.lookup n (List.foldl ij (a.zip mvs) ((a.drop (a.length-(b.drop (b.length-a.length)).length)).zip (b.drop (b.length-a.length))))).map (n,·))=a.zip (mvs++b.drop (mvs.length+b.length-a.length)):=by
 simp [Nat.sub_eq_zero_of_le c,fold_all f d c e];exact Me (pre:= []) f (by simp [u4];exact (AH d e).symm) λ ζ ζ=>rfl
def Jh(t)(k)(v):(if (t.lookup k).isNone=true then (pure (.yield (t++ [(k,v)])):Sem (ForInStep _)) else pure (.yield t))=pure (.yield (ij t (k,v))):=by
 unfold ij;by_cases h:(t.lookup k).isNone=true
 ·rw [if_pos h,if_pos h]
 ·rw [if_neg h,if_neg h]
def y0{a}{M}{A}{Q}{E}{s}{c}[Decidable c]{x y:Sem a}(h:¬c)(k:wpAny M A y Q E s):wpAny M A (if c then x else y) Q E s:=if_neg h▸k
def sX{a}{b}{mvs}{c}
 (i:a.params.posonlyargs= []) (j:a.params.args.map (·.arg)=b) (k:a.params.kwonlyargs= []) (m:a.params.vararg=none) (n:a.params.kwarg=none)
 (r:b.Nodup) (p:mvs.length<=b.length) (d:c.length<=b.length) (e:b.length<=mvs.length+c.length) {M} {A} {E} {Q} {s}
 (f:∀{Q},(∀o,(o.getD #[]).toList=c->Q o s)->wpAny M A (seqItems? a.defaults) Q E s)
 (q:Q (b.zip (mvs++c.drop (mvs.length+c.length-b.length))) s):wpAny M A (bindArgs a {mvs,[]}) Q E s:=by
 delta bindArgs
 generalize a.params=P at i j k m n ⊢;obtain ⟨C,u,D,z,y,B,v⟩:=P;subst i;subst k;subst m;subst n;refine af (aD (af (f λ o g=> ?_)));subst j;refine y0 (λ h=>Bi p (gx ((nc _).symm.trans h))) ?_;have d:=g.symm▸d;have e:=g.symm▸e;have q:=g.symm▸q;exact y0 (HM d e) (af (y6 _ (λ x t=>Jh t x.1 x.2) _ _ (af (aD (y0 nofun (aD (cast (congrArg (λ l=>Q l s) (Ey r p d e).symm) q)))))))
end PM.N
end
section
open PySem PySem.W PyProof.Rows PySem.Calls PySem.SeqAt Builtin Builtin.ObjectAttr
namespace PM
def uz{f}{j}{p}{c}{h}{A}{s}{mvs}{T}(F:n7 Kf f j p c h)(B:nsOkIn Kf cStatics=true/\nsIn Kf cStatics "sys.recursionlimit"=some none)
 (X:Kf.In s.heap) (u:mvs.length=j.np) (W:A.depth+57<=recursionLimit)
 (k:∀env s₁,env.scope=c.scope->env.globals=mainGlobals->env.builtins=builtinsNs->(∀b o,s.heap.get? b=some o->s₁.heap.get? b=some o)->s₁.gens=s.gens->s₁.os=s.os->s.heap.get? env.locals=none->(∃m,s₁.heap.Ns env.locals m/\∀(i:Nat) x v,(p.take j.np)[i]? =some x->mvs[i]? =some v->c.scope.names.lookup x=some .local->m x=some v)->
   wpAny M0 (A.deeper env) (execs h env) (λ D s'=>D= .next/\T (.ok (.ret .none)) s') (λ ζ ζ=>False) s₁):codeAny M0 A (.call (.ref f) {mvs,[]}) T s:=by
 refine F.look.elim λ Z q=>q.elim λ od q=>q.elim λ sl S=> ?_;have Q:=X _ _ S;have d:(p.take j.np).length=j.np:=by rw [Bf];exact u0 F.len
 have r:(p.take j.np).Nodup:=F.nd.sublist (List.take_sublist _ _);refine codeAny_call_function (by lia) Q rfl F.co F.gen F.body (sT X F.code) ?_;refine (vy (M:=M0) (A:=A.in1) (E:=λ e s'=>T (.error e) s') X F.kc).elim λ H g=> ?_;refine N.sX F.p1 F.p2 F.p3 F.p4 F.p5 r (by rw [d,u];exact bV _) (by rw [d,←gv g.1];exact F.dl) (by rw [d,u];exact ed _ _) g.2 ?_;rw [d,u,u9,←gv g.1,List.drop_of_length_le (by rw [gv g.1];exact bV _),ng];rw [F.QR];refine wpAny_newFunctionEnv_cells F.kind (λ x n=> ?_) λ env P s₁ l=> ?_
 ·rcases (λ x n=>by
  rcases jg (gy.mp F.st x n) with z | ⟨_,z⟩
  ·exact .inl z
  ·exact .inr z:∀x∈p.take _,c.scope.names.lookup x=some _∨c.scope.names.lookup x=some _) x.1 ((λ x n=>(Ba n).1) x n) with z | z
  ·exact .inl z
  ·exact .inr {z,eR _ _ _ _ (.inl (.inl z))}
 subst P;generalize t:newEnv _ _ _ _ _ _ _ _ _=env at l;refine l.toInCall.same.elim λ y q=>q.elim λ tk a=> ?_;have C:env.scope=c.scope:=by rw [←t];rfl
 refine ⟨(by
  obtain ⟨G,U⟩:=B
  exact {s.heap.nsMap cStatics,.of_isNs (isNs_of_in X G),nsMap_none_of_in X G U}:s.heap.NoLimit).keeps l.toInCall.keep,codeAny_func ?_⟩
 refine az (k env s₁ C ((by rw [←t];rfl:env.globals=c.globals).trans F.gl) ((by rw [←t];rfl:env.builtins=c.builtins).trans F.bl) l.toInCall.keep (by rw [a]) (by rw [a]) (by rw [←t];exact nu (bV _)) {_,l.toInCall.ns,λ i x v I J L=>nZ r I J (by rw [(λ x=>by unfold Env.kindOf;rw [C]:∀x,env.kindOf x=c.scope.names.lookup x)];exact L)}) (λ D s' z=> ?_) λ e s' z=>z.elim;obtain ⟨rfl,z⟩:=z;exact z
def Iu:typeOf (.type "Exception")=pure (.type "type"):=⋯
def tg:findCls [] (.type "Exception") (.type "type") "__init__"=some (.val (.builtin "Exception.__init__")):=⋯
def rT:findIn [] (.type "type") "__getattribute__"=some (some (.builtin "type.__getattribute__")):=by decide+kernel
def zB:subIn [] (.type "type") (.type "type")=some true:=by decide+kernel
def uL(h:Heap):Frag.In [] h:=λ b o e=>by cases e
section
variable{A:Around}{E:VP}{s:Shared}
def vh{b:Sem Bool}{Q:Value×List Value->Shared->Prop}(h:Q (.builtin "Exception.__init__",[]) {s with toks:=s.toks+1}):wpAny M0 A (getMethod (.type "Exception") "__init__" b) Q E s:=by
 have a:Looks M0 s.heap (typeOf (.type "Exception")) (.type "type"):=Looks.of_pure Iu;unfold getMethod;have c:Looks M0 s.heap (specialOf (.type "Exception") "__getattribute__") (some (.builtin "type.__getattribute__")):=a.andThen (looks_findIn (uL _) rT);refine af (c.here ?_)
 dsimp only
 rw [if_pos canon_tga];refine af (cls_open (K:= []) (mc:=.type "type") (hook:=none) (uL _) (Looks.of_pure ⋯) a rT (looks_hook (uL _) (by decide+kernel)) zB tg ?_);refine aD ?_;show wpAny _ _ (handedOut _) _ _ _;rw [handedOut_of (by decide+kernel)];exact aD (aD h)
def s7{env:Env}{o:Expr}{args:List Expr}{b:Str}{a pos:Pos}{Q:VP}(j:args.all noStar=true)(r:args.length<29)(i:baseOk o=true)(e:(a.endLine==pos.line)=true)
 (h:wpAny M0 A (eval o env) (λ n s₁=>∀q,wpAny M0 A (getMethod n b q) (λ p c=>wpAny M0 A (callWith pos p.1 p.2 (backTo pos (starEach args env)) []) Q E c) E s₁) E s):wpAny M0 A (eval (.Call (.Attribute o b a) args [] pos) env) Q E s:=by
 have k:∀{g:List Expr},g.all noStar=true->(backTo pos (starEach g env)).all (λ x=> !x.1)=true:=λ {g} h=>by
  have:=a6.yh (env:=env) h (pos:=pos);rw [gy];intro x l;rw [List.any_eq_false] at this
  simpa using this x l
 have d:methodCallForm (args.length+([]:List Keyword).length) (backTo pos (starEach args env)) (backToKw pos (keywordEach [] env))=true:=by
  unfold methodCallForm;rw [k j];show (true && true && decide (args.length+0+0<30))=true;simp;lia
 have f:methodCallPos true o env a pos=pure pos:=by unfold methodCallPos;simp [e]
 rw [arm_eval_Call,cD i];refine af (az h (λ m s₁ z=> ?_) λ ζ ζ z=>z);refine af (eM ?_);unfold methodCall;rw [d];refine af (i1 ?_);show wpAny _ _ (getMethod m b _) _ _ _;refine az (z _) (λ p c z=> ?_) λ ζ ζ z=>z;exact af (oX f z)
end
section
variable{A:Around}{E:VP}{h:Heap}{g:Array GenState}{d:Drawn}{t:Nat}{os:OsState}{e:Addr}
def tc{M:Model}{oe:Obj}{c:List Value}{Q:Unit->Shared->Prop}(l:h.get? 64=some XO)
 (m:h.get? e=some oe) (f:oe.cls= .ref 64) (o:Q () ⟨h,g,d,t,os⟩):
 wpAny M A (checkBuiltinCall "Exception.__init__" {.ref e::c,[]}) Q E ⟨h,g,d,t,os⟩:=by
 have F:=PySem.F.excBase_Exception;have k:(Value.ref 64::o9).contains (.type "Exception")=true:=by rw [xt,MV,Bool.or_true]
 have i:=F.noStar;simp only [checkBuiltinCall,F.initKind,F.initSplit,F.initRow]
 repeat (first | (with_reducible refine oY m ?_;rw [f]) | with_reducible refine oY l ?_ | (with_reducible refine Br l ?_;rw [k]) | wp_step)
 refine wpAny_onRaise ?_
 rw [show ∀(a b:String) (n:Nat),Bind.check {.positional,"*","Exception",.self,[{"args",.varPos,false}]} a b n (List.map (λ x=>x.fst) ({pos:=Value.ref e::c}:Args).kw)=pure () from
  λ a b n=>check_star_args _ _ _ _ _ _]
 exact aD o
def HL{od:Option Addr}{f:Array Value}{sl:Array (Option Value)}{m:Value}{Q:VP}(s:h.get? 64=some XO)
 (j:h.get? e=some {.ref 64,od,.fields f,sl}) (v:f.size=6)
 (k:∀i,i.get? e=some {.ref 64,od,.fields (f.setIfInBounds 0 (.ref h.objs.size)),sl}->(∀b o,b≠e->h.get? b=some o->i.get? b=some o)->Q .none ⟨i,g,d,t,os⟩):
 wpAny M0 A (PySem.call (.builtin "Exception.__init__") [.ref e,m]) Q E ⟨h,g,d,t,os⟩:=by
 have F:=PySem.F.excBase_Exception;refine su (codeAny_call_builtin F.init.plain F.initEntry (tc s j rfl ?_))
 wp_walk
 have r:f[0]? =some (f[0]'(by lia)):=Array.getElem?_eq_getElem (by lia);rw [r];refine aD ?_;have c:=b9 (h:=h) {cls:=.type "tuple",data:=.seq #[m]} j;refine af (wpAny_setField c rfl (by lia) ?_);have u:=qr (Obj.mapFields (·.setIfInBounds 0 (.ref h.objs.size))) c rfl;have p:∀{T:Unit->Shared->Prop},T () ⟨(h.push {cls:=.type "tuple",data:=.seq #[m]}).update e (Obj.mapFields (·.setIfInBounds 0 (.ref h.objs.size))),g,d,t,os⟩->T () ⟨(h.push {cls:=.type "tuple",data:=.seq #[m]}).update e (Obj.mapFields (·.setIfInBounds 0 (.ref h.objs.size))),g,d,t,os⟩:=λ z=>z;have l:=k _ u λ b o q n=>(nA _ _ (Ne.symm q)).trans (b9 _ n)
 split
 ·exact wpAny_letGo (aD l)
 ·exact aD (aD l)
end
structure lr(P:Params)(h₀:Heap)(e:Addr)(env:Env)(m:Str->Option Value)(ks:List Str)(mvs:List Value)(h:Heap):Prop where
 k0:∀b o,b≠e->h₀.get? b=some o->h.get? b=some o
 ns:h.Ns env.locals m
 ne:env.locals≠e
 x:∃od ws sl,h.get? e=some {.ref 64,od,.fields ws,sl}/\ws.size=6/\ws[1]? =some .none/\((od=none/\ks= []/\mvs= [])∨∃d,od=some d/\d≠e/\d≠env.locals/\h₀.get? d=none/\DictAt P h d ks mvs)
section
variable{A:Around}{E:VP}{s:Shared}{h₀:Heap}{e:Addr}{env:Env}{m:Str->Option Value}{ks:List Str}{mvs:List Value}{v:Value}
def HP{x}{pos}{Q}(c:env.scope.kind= .function)(d:env.kindOf x=some .local)(b:cI x=true)(a:s.heap.Ns env.locals m)(f:m x=some v)(k:Q v s):wpAny M0 A (eval (.Name x pos) env) Q E s:=by
 rw [cI,uW] at b;exact wpAny_Name (wpAny_loadName_local c d a f k) b
def lr.set{n}{Q}(M:lr Pw h₀ e env m ks mvs s.heap)(F:KF Kf)(K:XK Kf)(X:Kf.In s.heap)(G:n∈(["why","at","row","column"]:List Str))(I:ks.length<=900)
 (k:∀g t,lr Pw h₀ e env m (setM ks mvs n v).1 (setM ks mvs n v).2 g->(∀b o,b≠e->s.heap.get? b=some o->h₀.get? b=some o->g.get? b=some o)->Q () {s with heap:=g,toks:=t}):wpAny M0 A (setAttr (.ref e) n v) Q E s:=by
 obtain ⟨L,P,N,H,C,B,D⟩:=M.x;refine M.ns.elim λ J q=>q.elim λ j q=>q.elim λ i c=>Iv K X (not_modules F X) G H (D.imp id λ a=>a.elim λ d a=>⟨d,a.1,a.2.1,a.2.2.2.2⟩) I λ g t d x p r y l S=> ?_;have h:∀b o,h₀.get? b=some o->L≠some b:=λ b o f q=>by simp_all
 refine k g t {λ b o q f=>l b o q (h b o f) (M.k0 b o q f),{J,j,i,l _ _ M.ne λ q=>by simp_all c.1,c.2.1,c.2.2},M.ne,some d,P,N,x,C,B,.inr {d,rfl,p,?_,?_,y}} λ b o q f u=>l b o q (h b o u) f
 ·rcases r with q | q
  ·simp_all
  ·intro z;rw [z,c.1] at q;contradiction
 ·rcases r with q | q
  ·simp_all
  ·cases z:h₀.get? d with
   | none=>rfl
   | some o=>
    have:=M.k0 d o p z;rw [q] at this;contradiction
inductive NC(h:Heap)(e:Addr):Prop
 | mk (ws:Array Value) (sl:Array (Option Value)) (g:h.get? e=some {.ref 64,none,.fields ws,sl}) (n:ws.size=6) (z:ws[1]? =some .none):NC h e
inductive CE(s:Shared)(e:Addr)(ks:List Str)(mvs:List Value)(s':Shared):Prop
 | mk (d:Addr) (ws:Array Value) (sl:Array (Option Value)) (g:s'.heap.get? e=some {.ref 64,some d,.fields ws,sl}) (n:ws.size=6) (z:ws[1]? =some .none) (de:d≠e) (fr:s.heap.get? d=none) (da:DictAt Pw s'.heap d ks mvs) (kp:∀b o,b≠e->s.heap.get? b=some o->s'.heap.get? b=some o) (gn:s'.gens=s.gens) (os:s'.os=s.os):CE s e ks mvs s'
def lr.fin{s'}(M:lr Pw s.heap e env m ks mvs s'.heap)(b:ks≠[])(a:s'.gens=s.gens)(os:s'.os=s.os):CE s e ks mvs s':=
 M.x.elim λ g q=>q.elim λ f q=>q.elim λ c q=>q.2.2.2.elim (λ z=>absurd z.2.1 b) λ z=>z.elim λ d z=> .mk d f c (z.1▸q.1) q.2.1 q.2.2.1 z.2.1 z.2.2.2.1 z.2.2.2.2 M.k0 a os
structure IE(fd:FuncData)(env:Env)(m:Str->Option Value)(e:Addr):Prop where
 fk:env.scope.kind= .function
 kn:∀x,env.kindOf x=fd.scope.names.lookup x
 ls:fd.scope.names.lookup ("self":Str)=some .local
 ms:m "self"=some (.ref e)
variable{fd:FuncData}
def IE.loc{x}{pos}{Q}(I:IE fd env m e)(b:fd.scope.names.lookup x=some .local)(a:s.heap.Ns env.locals m)(d:m x=some v)(c:cI x=true)(k:Q v s):wpAny M0 A (eval (.Name x pos) env) Q E s:=HP I.fk ((I.kn x).trans b) c a d k
theorem IE.self{pos}{Q}(I:IE fd env m e)(a:s.heap.Ns env.locals m)(k:Q (.ref e) s):wpAny M0 A (eval (.Name "self" pos) env) Q E s:=I.loc I.ls a I.ms rfl k
def IE.asg{n y}{g i j l}{Q}(I:IE fd env m e)(d:fd.scope.names.lookup y=some .local)(f:m y=some v)(M:lr Pw h₀ e env m ks mvs s.heap)(F:KF Kf)(K:XK Kf)(X:Kf.In s.heap)(a:n∈(["why","at","row","column"]:List Str))(c:ks.length<=900)(b:cI y=true)
 (k:∀h t,lr Pw h₀ e env m (setM ks mvs n v).1 (setM ks mvs n v).2 h->Q .next {s with heap:=h,toks:=t}):wpAny M0 A (exec (.Assign [.Attribute (.Name "self" g) n i] (.Name y j) l) env) Q E s:=
 plainObj_wpAny_Assign_Attribute (I.loc d M.ns f b (I.self M.ns (M.set F K X a c λ h t M ζ=>k h t M))) rl
end
inductive GC(b:List Stmt):Prop
 | mk (p1 p2 p3 p4 p5 p6 q1 q2 q3 q4 r1 r2:Pos) (r3:Nat) (r4 r5 r6:Pos) (hb:b= [.Expr (.Call (.Attribute (.Name "Exception" p1) "__init__" p2) [.Name "self" p3,.Name "why" p4] [] p5) p6,.Assign [.Attribute (.Name "self" q1) "why" q2] (.Name "why" q3) q4,.Assign [.Attribute (.Name "self" r1) "at" r2] (.UnaryOp .USub (.Constant (.int 1) r3 r4) r5) r6]) (h:(p2.endLine==p5.line)=true):GC b
inductive GB(b:List Stmt):Prop
 | mk (p1 p2 p3 p4 p5 p6 q1 q2 q3 q4 r1 r2 r3 r4:Pos) (hb:b= [.Expr (.Call (.Attribute (.Name "WallFault" p1) "__init__" p2) [.Name "self" p3,.Name "why" p4] [] p5) p6,.Assign [.Attribute (.Name "self" q1) "row" q2] (.Name "row" q3) q4,.Assign [.Attribute (.Name "self" r1) "column" r2] (.Name "column" r3) r4]) (h:(p2.endLine==p5.line)=true):GB b
structure XM(Kf:Frag) where
 look:Kf.lookup 64=some XO
 k:XK Kf
 li:findIn Kf (.ref 64) "__init__"=some (some (.ref 61))
 lim:nsOkIn Kf cStatics=true/\nsIn Kf cStatics "sys.recursionlimit"=some none
 Md:Fn
 Lf:List Str
 nI:FuncData
 MY:List Stmt
 fA:n7 Kf 28 Md Lf nI MY
 pA:Md.np=2/\Lf.take 2=(["self","why"]:List Str)
 sA:GC MY
 gA:gk Kf nI.scope.names "Exception" (.type "Exception")=true
 lA:nI.scope.names.lookup ("self":Str)=some .local/\nI.scope.names.lookup ("why":Str)=some .local
 Gm:∀x,nI.scope.names.lookup x≠some .cell
 sP:Fn
 Le:List Str
 kY:FuncData
 MX:List Stmt
 fB:n7 Kf 61 sP Le kY MX
 pB:sP.np=4/\Le.take 4=(["self","why","row","column"]:List Str)
 sB:GB MX
 gB:iT Kf kY.scope.names "WallFault" (.ref 31)=true
 lB:kY.scope.names.lookup ("self":Str)=some .local/\kY.scope.names.lookup ("why":Str)=some .local/\kY.scope.names.lookup ("row":Str)=some .local/\kY.scope.names.lookup ("column":Str)=some .local
 Gl:∀x,kY.scope.names.lookup x≠some .cell
 gc:specialIn Kf (.ref 31) "__getattribute__"=some (some (.builtin "type.__getattribute__"))
 rd:readsIn Kf 31 (.type "type")=true
 fc:findCls Kf (.ref 31) (.type "type") "__init__"=some (.val (.ref 28))
 hi:handedIn (.ref 28)=true
 kp:keepIn Kf (.ref 28)=true
 tf:typeIn Kf (.ref 61)=some (.type "function")
section
variable{A:Around}{E:VP}{s:Shared}{h₀:Heap}{e:Addr}{env:Env}{m:Str->Option Value}{ks:List Str}{mvs:List Value}
def xE{b:FuncData}{P}{h}(c:env.scope=b.scope)(a:b.scope.kind= .function)(g:env.globals=mainGlobals)(f:env.builtins=builtinsNs)(j:∀x,b.scope.names.lookup x≠some .cell)(d:h.Ns env.locals m):ER P env b.scope.names [] none 0 [] {[],[],[],[]} h:=
 {c▸a,c▸rfl,g,f,λ x k=>absurd (c▸k) (j x),List.count_eq_zero.mp rfl,.mk m d λ x i v h=>nofun}
def zy{t:Value}{Q:VP}(F:KF Kf)(Z:XM Kf)(X:Kf.In s.heap)(J:A.depth+57<=recursionLimit)(ke:Kf.lookup e=none)(W:NC s.heap e)
 (k:∀s' u,CE s e ["why","at"] [t,.int (-1) u] s'->Q .none s'):wpAny M0 A (PySem.call (.ref 28) [.ref e,t]) Q E s:=
 W.casesOn λ ws sl B z P=>su (uz Z.fA Z.lim X (by rw [Z.pA.1];rfl) J λ env a n M L c U r p y=>y.elim λ m y=>Z.sA.casesOn λ p1 p2 p3 p4 p5 p6 q1 q2 q3 q4 r1 r2 r3 r4 r5 r6 T f=>by
  have I:IE Z.nI env m e:={n▸Z.fA.kind,λ x=>by unfold Env.kindOf;rw [n],Z.lA.1,y.2 0 "self" _ (by rw [Z.pA.1,Z.pA.2];rfl) rfl Z.lA.1};have D:m "why"=some t:=y.2 1 "why" _ (by rw [Z.pA.1,Z.pA.2];rfl) rfl Z.lA.2;have d:Kf.In a.heap:=λ b o g=>c b o (X b o g);have i:∀{h:Heap},(∀b o,b≠e->s.heap.get? b=some o->h.get? b=some o)->Kf.In h:=λ k b o g=>k b o (λ q=>aQ (ke.symm.trans (q▸g))) (X b o g);have G:env.locals≠e:=λ q=>aQ (p.symm.trans (q▸B));rw [T,execs_cons,exec_Expr env _ p6 (by unfold interactive;rw [I.fk];rfl) (kM rfl)];refine af (af (eM (af (s7 rfl (o4 (j8 2) ⋯) rfl f (eX F d (xE n Z.fA.kind M L Z.Gm y.1) Z.gA λ pl=>vh (bh rfl nofun (I.self (s:={a with toks:=a.toks+1}) y.1 (I.loc Z.lA.2 y.1 D rfl (HL (h:=a.heap) (d _ _ Z.look) (c _ _ B) z λ S N C=>wpAny_dropValue ?_)))))))));have v:lr Pw s.heap e env m [] [] S:=⟨λ b o q g=>C b o q (c b o g),y.1.imp λ o q=>q.imp λ es q=>q.imp λ ep q=>⟨C _ _ G q.1,q.2⟩,G,none,_,sl,N,by simpa using z,by simpa using P,.inl ⟨rfl,rfl,rfl⟩⟩;show wpAny _ _ (execs _ env) _ _ _;rw [execs_cons];refine af (I.asg Z.lA.2 D v F Z.k (i v.k0) ⋯ ⋯ rfl λ h3 t3 j=> ?_);show wpAny _ _ (execs _ env) _ _ _;rw [execs_cons];refine af (plainObj_wpAny_Assign_Attribute (wpAny_UnaryOp ?_) rl);rw [eval_Constant]
  exact wpAny_mkInt (neg_int (I.self j.ns (j.set F Z.k (i j.k0) ⋯ (by simp [setM]) λ h4 t4 H ζ=>Bc {rfl,k _ _ (lr.fin (ks:= ["why","at"]) H nofun U r)}))))
end
section
variable{A:Around}{E:VP}{s:Shared}{e:Addr}
def lr.of{s₁ c:Shared}{env:Env}{m:Str->Option Value}{ks:List Str}{mvs:List Value}(x:CE s₁ e ks mvs c)(a:∀b o,s.heap.get? b=some o->s₁.heap.get? b=some o)(v:s₁.heap.Ns env.locals m)(k:env.locals≠e):lr Pw s.heap e env m ks mvs c.heap:=
 x.casesOn λ d C B n p r t i u j ζ ζ=>v.elim λ y q=>q.elim λ g q=>q.elim λ f q=>
  {λ b o h l=>j b o h (a b o l),{y,g,f,j _ _ k q.1,q.2},k,some d,C,B,n,p,r,.inr {d,rfl,t,λ z=>aQ (i.symm.trans (z▸q.1)),(by
   cases z:s.heap.get? d with
   | none=>rfl
   | some o=>exact aQ (i.symm.trans (a d o z))),u}}
def EF{l j mc:Value}{Q}(F:KF Kf)(Z:XM Kf)(X:Kf.In s.heap)(dp:A.depth+58<=recursionLimit)(C:Kf.lookup e=none)(T:NC s.heap e)
 (k:∀s' u,CE s e ["why","at","row","column"] [l,.int (-1) u,j,mc] s'->Q .none s'):wpAny M0 A (PySem.call (.ref 61) [.ref e,l,j,mc]) Q E s:=
 T.casesOn λ ws sl B M L=>su (uz Z.fB Z.lim X (by rw [Z.pB.1];rfl) (by lia) λ f c p H G d P t r y=>y.elim λ m y=>Z.sB.casesOn λ p1 p2 p3 p4 p5 W q1 q2 q3 q4 r1 r2 r3 r4 N S=>by
  have I:IE Z.kY f m e:={p▸Z.fB.kind,λ x=>by unfold Env.kindOf;rw [p],Z.lB.1,y.2 0 "self" _ (by rw [Z.pB.1,Z.pB.2];rfl) rfl Z.lB.1};have a:Kf.In c.heap:=λ b o i=>d b o (X b o i);have g:∀{h:Heap},(∀b o,b≠e->s.heap.get? b=some o->h.get? b=some o)->Kf.In h:=λ k b o i=>k b o (λ q=>aQ (C.symm.trans (q▸i))) (X b o i);have U:f.locals≠e:=λ q=>aQ (r.symm.trans (q▸B));rw [N,execs_cons,exec_Expr f _ W (by unfold interactive;rw [I.fk];rfl) (kM rfl)];refine af (af (eM (af (s7 rfl (o4 (j8 2) ⋯) rfl S (jn F a (xE p Z.fB.kind H G Z.Gl y.1) Z.gB λ pl=>method_cls a Z.gc (cls_value a Z.rd Z.fc Z.hi (fu (Pp:=Kf.In) rfl (λ h X=>l_ Z.kp h X) (I.self (s:={c with toks:=c.toks+1}) y.1 (I.loc Z.lB.2.1 y.1 (y.2 1 "why" _ (by rw [Z.pB.1,Z.pB.2];rfl) rfl Z.lB.2.1:m "why"=some l) rfl ⟨a,?_⟩)))))))));refine zy (s:={c with toks:=c.toks+1}) F Z a (by assumption) C ⟨ws,sl,d _ _ B,M,L⟩ λ s2 u x=>wpAny_dropValue ?_;have v:=lr.of x d y.1 U;refine af (I.asg Z.lB.2.2.1 (y.2 2 "row" _ (by rw [Z.pB.1,Z.pB.2];rfl) rfl Z.lB.2.2.1:m "row"=some j) v F Z.k (g v.k0) ⋯ ⋯ rfl λ h3 t3 z=> ?_);refine af (I.asg (ks:= ["why","at","row"]) (mvs:= [l,.int (-1) u,j]) Z.lB.2.2.2 (y.2 3 "column" _ (by rw [Z.pB.1,Z.pB.2];rfl) rfl Z.lB.2.2.2:m "column"=some mc) z F Z.k (g z.k0) ⋯ ⋯ rfl λ h4 t4 D=> ?_)
  exact x.casesOn λ ζ ζ ζ ζ ζ ζ ζ ζ ζ ζ J os=>Bc {rfl,k _ _ (lr.fin (ks:= ["why","at","row","column"]) D nofun (J.trans P) (os.trans t))})
end
section
variable{K:Ct}{σ:St}{r:R V}{rs:R (List V)}
end
end PM
end
section
open PySem PySem.W PyProof.Rows PySem.Calls PySem.SeqAt PySem.StrLaws
namespace PM
noncomputable def wB:X->Bool
 | .loc _=>true
 | .lit _=>true
 | _=>false
noncomputable def qw:X->Bool
 | .loc _=>true
 | .lit _=>true
 | .prim .item a=>a.all wB
 | _=>false
section
variable{K:Ct}{σ:St}{Q:VP}{E:VP}
def EI{a b r}:a++ap b r=a++b++r:=by simp [tV,zK]
end
def rA:typeLookup (.type "list") "keys"=pure none:=am_miss_of_fast ⋯
def sS:entryFor table "dict.update.loop"=some Builtin.«dict.update.loop»:=entryFor_of_tree ⋯
section
variable{A:Around}{E:VP}{s:Shared}
def Fv(f:Heap)(g:Array GenState)(d:Drawn)(os:OsState)(a:Addr):Result->Shared->Prop:=λ r h=>∃c b e,r= .error (.ref e)/\h=⟨c,g,d,b,os⟩/\Heap.NewAttrErr f c e (.ref a) "keys"
def Bd{a:Addr}{p:Array Value}{k:Nat}{Q:Option Value->Shared->Prop}(n:s.heap.get? a=some {cls:=.type "list",data:=.seq p k})(q:A.handled=none)
 (h:∀j tk,(∀b o,s.heap.get? b=some o->j.get? b=some o)->Q none {s with heap:=j,toks:=tk}):wpAny M0 A (getAttr? (.ref a) "keys") Q E s:=by
 obtain ⟨l,g,d,tk,os⟩:=s;have m:∀f,(⟨l,g,d,f,os⟩:Shared).TypeIs (.ref a) "list":=λ ζ=>⟨_,n,rfl⟩;have t:=sub_AttributeError;have u:=F.slot_list_getattribute.lookup;have v:=F.slot_list_getattribute.bind (.ref a);have x:=am_list_getattr_none;have i:=rA;unfold getAttr? getAttrBy? getAttrBy
 repeat (any_goals (first | assumption | exact m _ | wp_step))
 refine codeAny_mono (codeAny_call_builtin (R:=Fv l g d os a) F.slot_list_getattribute.plain am_entry_list_getattribute (F.slot_list_getattribute.check _ _ _ _ _ _ _ _ (m _) (F.args_list_getattribute_2 _ _)
  (meets_getattribute_miss_list a p k #[] "keys" _ i (by decide+kernel) (by decide+kernel) prog w A (Fv l g d os a) {l,g,d,tk+1,os} {n,q,λ j f e c=>⟨j,f,e,rfl,rfl,c⟩}))) λ r B z=> ?_
 obtain ⟨j,f,e,rfl,rfl,c⟩:=z;obtain ⟨C,D,y⟩:=c.there;show wpAny _ _ (getattributeRaised _ _ _ _ _ _ _) _ _ _;unfold getattributeRaised
 repeat (any_goals (first | assumption | wp_step))
 exact h _ _ c.keeps
inductive vS(h:Heap):List (Str×Value)->List Value->Prop
 | nil:vS h [] []
 | cons (p:Str×Value) (t:Addr) (u:Tok) (n:Nat) {ps xs} (e:h.get? t=some {cls:=.type "tuple",data:=.seq #[.str p.1 u,p.2] n}) (r:vS h ps xs):vS h (p::ps) (.ref t::xs)
structure tY(h₀ h:Heap)(d it l:Addr)(i:Nat)(items:List Value)(kvs:List (Str×Value)):Prop where
 iter:h.IsListIter it l i
 lst:h.IsList l items.toArray
 bH:h.DictOf (strKind prog w) d kvs
 keep:∀b o,h₀.get? b=some o->h.get? b=some o
 nd:h₀.get? d=none
 ni:h₀.get? it=none
 ne:d≠it
def stored_new{kvs a:List (Str×Value)}{p:Str×Value}(b:((kvs++p::a).map (·.1)).Nodup):stored kvs p.1 p.2=kvs++ [p]:=by
 refine if_neg ?_;rw [u3];rw [qo,A5] at b;exact λ z=>z.elim λ x z=>(List.nodup_append.mp b).2.2 x.1 (List.mem_map_of_mem z.1) p.1 (.head _) (gx z.2)
section
variable{h₀ h h' h2:Heap}{d it l:Addr}{items:List Value}{i:Nat}{kvs kvs':List (Str×Value)}
def qd{a b:Addr}{o:Obj}(e:h.get? a=some o)(n:h.get? b=none):a≠b:=λ q=>aQ (n.symm.trans (q▸e))
def tY.step(L:tY h₀ h d it l i items kvs)(j:h₀.IsList l items.toArray)(c:h'.IsListIter it l (i+1))(k:Heap.SameBut it h h')(a:Heap.SameBut d h' h2)(g:h2.DictOf (strKind prog w) d kvs'):tY h₀ h2 d it l (i+1) items kvs':=
 have f:∀b o,h₀.get? b=some o->h2.get? b=some o:=λ b o e=>(a.2 b (qd e L.nd)).trans ((k.2 b (qd e L.ni)).trans (L.keep b o e))
 {c.imp λ o z=>{(a.2 it L.ne.symm).trans z.1,z.2},j.imp λ o z=>{f _ _ z.1,z.2},g,f,L.nd,L.ni,L.ne}
def Eg(c:h₀.IsList l items.toArray){a:List (Str×Value)}{I:List Value}(P:vS h₀ a I):∀{i kvs} {A:Around} {s:Shared} {tk:Tok} {R:Result->Shared->Prop},I=items.drop i->A.handled=none->tY h₀ s.heap d it l i items kvs->
 ((kvs++a).map (·.1)).Nodup->(kvs++a).length<=sizeLine->
 (∀h' F,h'.DictOf (strKind prog w) d (kvs++a)->(∀b o,h₀.get? b=some o->h'.get? b=some o)->R (.ok (.ret .none)) {s with heap:=h',toks:=F})->
 codeAny M0 A (.builtin "dict.update.loop" {[.ref d,.ref it,.int i tk,.none],[]}) R s:=by
 induction P with
 | nil=>
  intro i kvs A s tk R g j L y C k;refine codeAny_builtin sS ?_;unfold Builtin.«dict.update.loop»;refine af (wpAny_pyNext_list_end j L.iter L.lst (by rw [List.getElem?_toArray,FY (List.drop_eq_nil_iff.mp g.symm)]) λ h' H=> ?_);show wpAny _ _ (Builtin.Dict.addKeywords d []>>=λ ζ=>ret .none) _ _ _;exact af (aD (aD (k h' s.toks ((ng kvs).symm▸L.bH.extBut H L.ne) λ b o e=>H b o (qd e L.ni) (L.keep b o e))))
 | cons p t u n e r M=>
  intro i kvs A s tk R g j L y C k;refine codeAny_builtin sS ?_;unfold Builtin.«dict.update.loop»;refine af (wpAny_pyNext_list_item L.iter L.lst (x:=.ref t) (by rw [List.getElem?_toArray,←List.head?_drop,←g];rfl) λ h' v z=> ?_);have f:=(z.2 t (qd e L.ni)).trans (L.keep _ _ e)
  dsimp only
  refine af (i1 (af (wpAny_tryCatch ?_)));unfold Builtin.Dict.pairItems;refine af (wpAny_typeOf (T:="tuple") ⟨_,f,rfl⟩ ?_);rw [if_pos ⋯];refine af (wpAny_seqItems f rfl (aD ?_));show wpAny _ _ (holding [Value.str p.1 u,p.2] (dictSet d (.str p.1 u) p.2)) _ _ _;refine i1 (wpAny_dictSet_pairs (ff p.1:(strKind prog w).is p.1 (.str p.1 u)=true) (L.bH.sameBut z L.ne) (λ h2 m B=>aD {Code.quiet_builtin _ (by decide+kernel),?_}) (ag (by simp) C));exact M (i:=i+1) (by rw [←List.tail_drop,←g];rfl) j (L.step c v z B (stored_new y▸m)) (List.append_cons kvs p _▸y) (List.append_cons kvs p _▸C) λ J G q D=>k J G (List.append_cons kvs p _▸q) D
end
end
section
variable{A:Around}{E:VP}{s:Shared}
def rN{l:Addr}{c:List Value}{n:Nat}{m:List (Str×Value)}{Q:VP}(D:A.handled=none)(G:s.heap.get? l=some {cls:=.type "list",data:=.seq c.toArray n})(J:vS s.heap m c)
 (I:(m.map (·.1)).Nodup) (L:m.length<=sizeLine)
 (k:∀r tk,r.DictOf (strKind prog w) s.heap.objs.size m->(∀b o,s.heap.get? b=some o->r.get? b=some o)->Q (.ref s.heap.objs.size) {s with heap:=r,toks:=tk}):wpAny M0 A (PySem.call (.type "dict") [.ref l]) Q E s:=by
 refine callType_codes (Q₁:=λ j g=>j= .ref _/\g={s with heap:=s.heap.push _}) F.kt_called_dict (F.kt_typeCall_dict_1 _) F.entry_dict_init (kt_code_dict_new _ ⟨rfl,rfl⟩) ?_
 rintro j g ⟨rfl,rfl⟩
 have a:(s.heap.push _).DictOf (strKind prog w) _ []:=Heap.DictOf.new _;have d:(s.heap.push {cls:=.type "dict",data:=.dict #[]}).get? l=some _:=b9 _ G;refine {a.typeIs,F.args_dict_init_2 _ _,af (af (wpAny_notOrdered_dict a.typeIs (aD (af (wpAny_typeOf ⟨_,d,rfl⟩ (af (Bd d D λ C M f=>af (wpAny_rule (af (wpAny_pyIter_list {_,f _ _ d,rfl,n,rfl} (aD {Code.quiet_builtin _ (by decide+kernel),?_})))))))))))};have x:C.DictOf (strKind prog w) _ []:=a.imp λ o q=>q.imp λ B q=>q.imp λ y q=>{f _ _ q.1,q.2};have h:s.heap.objs.size<C.objs.size:=x.elim λ o q=>q.elim λ B q=>q.elim λ y z=>fY z.1
 exact Eg ⟨_,G,rfl,n,rfl⟩ J (i:=0) (kvs:= []) rfl D {{_,dW _ rfl,rfl,rfl},{_,b9 _ (f _ _ d),rfl,n,rfl},x.imp λ o q=>q.imp λ B q=>q.imp λ y q=>{b9 _ q.1,q.2},λ b o e=>b9 _ (f _ _ (b9 _ e)),nu (bV _),nu (iC h),jG h}
  I L λ H v t u=>{rfl,k H v t u}
def Dv{P:Params}{ν H:List Addr}{h:Heap}{l:List V}:∀{mvs:List Value} {b:List (Str×V)},rq pairOf l=some b->aj KA P ν H h l mvs->∃ms,aj KA P ν H h (b.map (·.2)) ms/\vS h ((b.map (·.1)).zip ms) mvs:=by
 induction l with
 | nil=>exact λ {mvs b} e r=>ar e▸r▸{[],rfl,.nil}
 | cons x l F=>
  exact λ {mvs b} e r=>ab e λ q d e=>ab e λ c B e=>r.elim λ m r=>r.elim λ ms r=>(F B r.2.2).elim λ f i=>ab d λ N D d=>
   ar e▸r.1▸d6 (λ m=>∃ms_1,aj KA P ν H h ((q::c).map Prod.snd) ms_1/\vS h (((q::c).map Prod.fst).zip ms_1) (m::ms)) D r.2.1 λ t Q ζ J a=>(Fj d).elim λ u z=>z.elim λ v z=>ab z.2 λ k C p=>by
    rw [z.1] at a;rw [←ar p]
    exact a.elim λ I a=>a.elim λ M a=>a.2.2.elim λ j y=>y.elim λ G y=>(V.jW C▸a.2.1:Rep KA P ν H h (.str k) I).elim λ L o=>J.elim λ n g=>
     ⟨j::f,⟨_,_,rfl,y.2.1,i.1⟩,.cons (k,j) t L n (by rw [g,a.1,y.1,o,show G= [] from y.2.2]) i.2⟩
section
variable{K:Ct}{σ:St}{r:R V}{rs:R (List V)}
end
end
section
structure Cs where
 Kf:Frag
 κ:List (Str×NameKind)
 Γ:List (Str×Nat)
 ow:Option Nat
def gh(E:Expr)(c:Str->Bool)(b:List Expr->Bool):Bool:=tu E λ f args a ζ=>dZ f λ x ζ=>a.isEmpty && (args.all noStar && (c x && b args))
variable{E:Expr}{c:Str->Bool}{κ:List Expr->Bool}
def ej(C:Expr->Prop)(h:gh E c κ=true)(g:∀x b args pos,args.all noStar=true->c x=true->κ args=true->C (.Call (.Name x b) args [] pos)):C E:=
 qN C h λ f args a pos h=>cz (λ f=>C (.Call f _ a pos)) h λ x b h=>b4 (λ a=>C (.Call _ _ a pos)) (an h).1 (g x b _ pos (an (an h).2).1 (an (an (an h).2).2).1 (an (an (an h).2).2).2)
def tU(E:Expr)(c:Str->Bool)(d:Expr->Bool)(κ:List Expr->Bool):Bool:=tu E λ f args e b=>i4 f λ o m a=>e.isEmpty && (args.all noStar && (decide (args.length<29) && (baseOk o && ((a.endLine==b.line) && (c m && (d o && κ args))))))
def rO{e}(C:Expr->Prop)(h:tU E c e κ=true)
 (g:∀o m a args pos,args.all noStar=true->args.length<29->baseOk o=true->(a.endLine==pos.line)=true->c m=true->e o=true->κ args=true->C (.Call (.Attribute o m a) args [] pos)):C E:=
 qN C h λ f args d pos h=>fy (λ f=>C (.Call f _ d pos)) h λ o m a h=>b4 (λ d=>C (.Call _ _ d pos)) (an h).1 (by
  have b:=(an (an (an h).2).2).2
  exact g o m _ _ pos (an (an h).2).1 (gx (an (an (an h).2).2).1) (an b).1 (an (an b).2).1 (an (an (an b).2).2).1 (an (an (an (an b).2).2).2).1 (an (an (an (an b).2).2).2).2)
def rC(E:Expr):Bool:=kG E λ c ζ ζ=>match c with
 | .none=>true
 | _=>false
def sN(C:Expr->Prop)(h:rC E=true)(g:∀k p,C (.Constant .none k p)):C E:=
 lC C h λ c k p h=>by cases c<;>first | exact g k p | exact absurd h cK
def vJ(E:Expr)(o:CmpOp)(κ:Expr->Expr->Bool):Bool:=t5 E λ l a d ζ=>u1 a λ b=>b==o && u1 d λ r=>κ l r
def qF{o}{κ}(C:Expr->Prop)(h:vJ E o κ=true)(g:∀l r p,κ l r=true->C (.Compare l [o] [r] p)):C E:=
 pU C h λ l a b p h=>c6 (λ a=>C (.Compare l a b p)) h λ d h=>(bq (an h).1).symm▸c6 (λ b=>C (.Compare l [o] b p)) (an h).2 λ r h=>g l r p h
def Ck(E:Expr)(κ:Expr->Option Expr->Option Expr->Option Expr->Bool):Bool:=qM E λ v i ζ=>tZ i λ lo a st ζ=>κ v lo a st
def tT{κ}(C:Expr->Prop)(h:Ck E κ=true)(g:∀v lo hi st q p,κ v lo hi st=true->C (.Subscript v (.Slice lo hi st q) p)):C E:=
 mI C h λ v i p h=>CH (λ i=>C (.Subscript v i p)) h λ lo hi st q h=>g v lo hi st q p h
def Pl(S:Cs)(p:Pr)(t:List X)(E:Expr)(κ:List Expr->Bool):Bool:=match p with
 | .bin o=>yb E λ l q r ζ=>q==o && κ [l,r]
 | .cmp o=>vJ E o λ l r=>cq r && κ [l,r]
 | .sj=>vJ E .NotEq λ l r=>cq r && κ [l,r]
 | .neg=>Jm E λ q x ζ=>q== .USub && κ [x]
 | .not=>Jm E λ q x ζ=>q== .Not && κ [x]
 | .iE=>vJ E .Is λ l r=>rC r && κ [l]
 | .vf=>vJ E .IsNot λ l r=>rC r && κ [l]
 | .item=>qM E λ v i ζ=>lV i && κ [v,i]
 | .mN=>Ck E λ v lo h st=>uS lo λ a=>h.isNone && (st.isNone && κ [v,a])
 | .gK=>Ck E λ v lo h st=>lo.isNone && uS h λ b=>st.isNone && κ [v,b]
 | .mM=>Ck E λ v lo h st=>uS lo λ a=>uS h λ b=>st.isNone && κ [v,a,b]
 | .mL=>Ck E λ v lo h st=>uS lo λ a=>h.isNone && uS st λ b=>κ [v,a,b]
 | .tup=>fU E λ g ζ ζ=>g.all noStar && κ g
 | .lst=>pT E λ g ζ=>g.all noStar && κ g
 | .bH j=>jT E λ e d ζ=>if j= [] then e.isEmpty && (d.isEmpty && κ []) else keysOk j e && (decide (j.length=d.length/\j.Nodup/\j.length<=15) && κ d)
 | .j7=>jT E λ e d ζ=>e.isEmpty && (d.isEmpty && κ [])
 | .j6=>jT E λ e d ζ=>u1 e λ k=>uS k λ k=>u1 d λ v=>κ [k,v]
 | .ek b=>gh E (λ f=>gk S.Kf S.κ f (zo b)) κ
 | .y5 s=>EU E λ g ζ=>t.all qw && (ov s g && (decide (2<=g.length) && κ (hU g)))
 | .attr n=>i4 E λ v m ζ=>m==n && (baseOk v && (bu S.Kf n && κ [v]))
 | .oB c=>c==64 && (keepIn S.Kf (.ref 64) && gh E (λ f=>iT S.Kf S.κ f (.ref 64)) κ)
def Cs.sub(S:Cs)(t:Tg)(a:Expr)(sc:Scope):Cs:={S.Kf,dH S.κ sc.names,compΓ (dH S.κ sc.names) t a S.Γ,S.ow}
def Ew(a:List Comprehension)(κ:Expr->Expr->List Expr->Bool):Bool:=u1 a λ g=>g.is_async==0 && κ g.target g.iter g.ifs
def Cq{f}{κ}(C:List _->Prop)(h:Ew f κ=true)(g:∀d iter b,κ d iter b=true->C [{d,iter,b,0}]):C f:=
 c6 C h λ ⟨d,iter,b,a⟩ h=>by
  have e:=bq (an h).1;subst e;exact g d _ b (an h).2
def kF(S:Cs)(i:Nat)(x:Str):Bool:=cI x && ((S.Γ.lookup x==some i) && (S.ow !=some i))
def f6{S}{i}{x}(h:kF S i x=true):cI x=true/\S.Γ.lookup x=some i/\S.ow≠some i:={(an h).1,bq (an (an h).2).1,bn (an (an h).2).2}
mutual
noncomputable def ck(S:Cs)(x:X)(E:Expr):Bool:=match x with
 | .lit v=>kG E λ c ζ ζ=>litOk v c
 | .loc i=>dZ E λ x ζ=>kF S i x
 | .glob a=>dZ E λ x ζ=>iT S.Kf S.κ x (.ref a)
 | .prim p g=>Pl S p g E λ u=>eA S g u
 | .cM c a b=>PH E λ t x y ζ=>ck S c t && (ck S a x && ck S b y)
 | .ba A g=>Jq E λ B u ζ=>B==DC A && eA S g u
 | .chain p q a b c=>t5 E λ l j D ζ=>u2 j λ B N=>u2 D λ r J=>cq J && (B==p && (N==q && (ck S a l && (ck S b r && ck S c J))))
 | .call f g=>gh E (λ x=>iT S.Kf S.κ x (.ref f) && keepIn S.Kf (.ref f)) λ args=>eA S g args
 | .pF f n x g=>tU E (λ m=>n==m && (uM S.Kf n f && keepIn S.Kf (.ref f))) (λ o=>ck S x o) λ args=>eA S g args
 | .met p x g=>tU E (λ m=>(m4 p).2.1==m) (λ o=>ck S x o) λ args=>eA S g args
 | .tS i g=>gh E (λ x=>kF S i x && g.all qw) λ args=>eA S g args
 | .new c f g=>gh E (λ x=>iT S.Kf S.κ x (.ref c) && (findIn S.Kf (.ref c) "__init__"==some (some (.ref f)) && (makesIn S.Kf c && ((c==322 || c==606) && (keepIn S.Kf (.ref c) && typeIn S.Kf (.ref f)==some (.type "function")))))) λ args=>eA S g args
 | .ro x=>gh E (λ n=>gk S.Kf S.κ n (.type "list")) λ args=>u1 args λ a=>noStar a && ck S x a
 | .kv C g=>jT E λ h d ζ=>if C= [] then h.isEmpty && (d.isEmpty && g.isEmpty) else keysOk C h && (decide (C.length=d.length/\C.Nodup/\C.length<=15) && eA S g d)
 | .tI=>jT E λ h d ζ=>h.isEmpty && d.isEmpty
 | .qf x y=>jT E λ h d ζ=>u1 h λ k=>uS k λ k=>u1 d λ v=>ck S x k && ck S y v
 | .uB x=>tU E (λ m=>m==("pop":Str)) (λ o=>ck S x o) λ args=>u1 args λ a=>kG a λ c ζ ζ=>match c with
  | .int i=>i==0
  | _=>false
 | .mY i=>gh E (λ n=>gk S.Kf S.κ n (.builtin "len")) λ args=>u1 args λ a=>bo S.Γ i a && S.ow==some i
 | .iR i=>gh E (λ n=>gk S.Kf S.κ n (.type "tuple")) λ args=>u1 args λ a=>bo S.Γ i a && S.ow==some i
 | .mu i b=>t5 E λ l j D ζ=>u1 j λ B=>u1 D λ r=>B==(if b then .Eq else .NotEq) && (bo S.Γ i l && (BW r && S.ow==some i))
 | .si x i=>t5 E λ l j D ζ=>u1 j λ B=>u1 D λ r=>B== .In && (cq r && (ck S x l && (bo S.Γ i r && S.ow==some i)))
 | .comp e t H L=>ya E λ F M I ζ=>Ew M λ s z G=>pS S H z s && (vF S.κ S.Γ S.ow t s z I && (ck (S.sub t s I) e F && eA (S.sub t s I) L G))
 | .stuck=>true
noncomputable def eA(S:Cs)(g:List X)(u:List Expr):Bool:=match g with
 | []=>u.isEmpty
 | x::g=>match u with
  | e::u=>ck S x e && eA S g u
  | []=>false
noncomputable def pS(S:Cs)(H:It)(E T:Expr):Bool:=match H with
 | .val x=>plainT T && ck S x E
 | .kr x=>gh E (λ n=>gk S.Kf S.κ n (.type "range")) λ args=>u1 args λ a=>noStar a && (plainT T && ck S x a)
 | .lS x y=>gh E (λ n=>gk S.Kf S.κ n (.type "range")) λ args=>u2 args λ a b=>noStar a && (noStar b && (plainT T && (ck S x a && ck S y b)))
 | .nP x=>gh E (λ n=>gk S.Kf S.κ n (.type "enumerate")) λ args=>u1 args λ a=>noStar a && (dG T && ck S x a)
end
end
noncomputable abbrev De(α:Type):=Nat->α×Nat
noncomputable def pu{α:Type}(a:α):De α:=λ n=>(a,n)
noncomputable def aB{α β:Type}(f:De (α->β))(d:De α):De β:=λ n=>((f n).1 (d (f n).2).1,(d (f n).2).2)
def dM(a b c:Nat):De Nat:=λ n=>cond (Nat.blt (n%a) b) (n%a,n/a) ((n%a-b)*c+n/a%c+b,n/a/c)
noncomputable def sel{α:Type}(m:De Nat)(d:De α)(l:List (De α)):De α:=λ n=>l.getD (m n).1 d (m n).2
noncomputable def pk{α β:Type}(m:De Nat)(l:List α)(a:α)(f:α->β):De β:=λ n=>((l.map f).getD (m n).1 (f a),(m n).2)
noncomputable def dN:De Nat:=dM 7 6 6
def dA:De Nat:=dM 1 0 932
noncomputable def Qa{α:Type}(d:De α):Nat->De (List α)
 | 0=>pu []
 | k+1=>aB (aB (pu List.cons) d) (Qa d k)
def rp{α:Type}(d:De α):De (List α):=λ n=>Qa d (dM 4 3 30 n).1 (dM 4 3 30 n).2
noncomputable def Sg:List Str:= ["","look","word","'","take","0","/","at","string","fault","*","ip4","tongue","types","0123456789","\"","name",".","0x","time","family","table","jump","goto","0123456789abcdefABCDEF","!","~","ip6","mask","-","eof","end of file","end","\n","newline",";","syntax error, unexpected ",", expecting ","sign","number","Value "," exceeds valid range 0-","Could not resolve '","' as ","accept","drop","continue","return","9",":","::","0123456789abcdef","d","h","m","s","ms",",","mac","tokens","known","is_sign","skip_sign","comment too long, 128 characters maximum allowed","expression nested too deeply","want_word","want_sign","verdict","{","unknown datatype '","unqualified type '","' specified in set definition","fields","2s","1m30s","inet","t","big","read","bad"].map Str.ofString
def dS:De Str:=aB (pu λ i=>Sg.getD i Str.empty) (dM 28 15 5)
def dB{β:Type}:(Bool->β)->De β:=pk (dM 2 1 1) [false] true
def dO{β:Type}:(Operator->β)->De β:=pk (dM 3 2 7) [.Add,.Sub,.Mult,.Pow,.LShift,.RShift,.BitOr,.BitAnd,.Mod] .FloorDiv
def dC{β:Type}:(CmpOp->β)->De β:=pk (dM 2 1 7) [.Eq,.NotEq,.In,.LtE,.Gt,.Lt,.NotIn] .GtE
def dV{α:Type}(f:V->α):De α:=sel (dM 3 2 3) (pu (f .none)) [aB (pu λ k:Nat=>f (.int k)) (dM 5 4 997),aB (pu λ s=>f (.str s)) dS,pu (f .none),dB λ b=>f (.bool b),aB (pu λ l:List Nat=>f (.int (l.foldr (λ a n=>n*64+a) 0:Nat))) (rp (λ n=>(n%64,n/64)))]
def dP{α:Type}(f:Pr->α):De α:=sel (dM 6 5 12) (pu (f .sj)) [dC λ o=>f (.cmp o),pu (f .item),dO λ o=>f (.bin o),pk (dM 2 1 7) [.len,.int,.ord,.sum,.str,.max,.nC,.dict,.tuple,.list] .min λ o=>f (.ek o),pu (f .tup),pu (f .iE),pu (f .neg),pu (f .gK),pu (f .vf),pu (f .lst),aB (pu λ o=>f (.attr o)) dS,pu (f .not),pu (f .mN),pu (f .mM),aB (pu λ o=>f (.bH o)) (rp dS),aB (pu λ o=>f (.oB o)) dA,aB (pu λ o=>f (.y5 o)) (rp (sel (dM 2 1 1) (pu none) [pu none,aB (pu some) dS])),pu (f .sj),pu (f .mL),pu (f .j7),pu (f .j6)]
noncomputable def dT:Nat->De Tg
 | 0=>pu (.loc 0)
 | k+1=>sel (dM 2 1 1) (pu (.loc 0)) [aB (pu Tg.loc) dN,aB (pu Tg.tup) (rp (dT k))]
def dI(x:De X):De It:=sel (dM 2 1 3) (aB (pu It.val) x) [aB (pu It.val) x,aB (pu It.kr) x,aB (pu It.nP) x,aB (aB (pu It.lS) x) x]
noncomputable def dX:Nat->De X
 | 0=>pu .stuck
 | k+1=>let x:=dX k;let xs:=rp x;let t:=dT 5;sel (dM 4 3 11) (pu .stuck) [dV X.lit,aB (pu X.loc) dN,aB (dP X.prim) xs,aB (aB (pu X.call) dA) xs,aB (dB X.ba) xs,aB (aB (aB (aB (pu X.pF) dA) dS) x) xs,aB (aB (pk (dM 2 1 4) [.split,.strip,.find,.eH,.lower,.join] .pK X.met) x) xs,aB (aB (aB (pu X.cM) x) x) x,aB (aB (aB (aB (pu X.comp) x) t) (dI x)) xs,aB (aB (aB (aB (dC X.chain) (dC id)) x) x) x,aB (aB (aB (pu X.new) dA) dA) xs,aB (aB (pu X.tS) dN) xs,pu X.tI,pu X.stuck,aB (pu X.glob) dA,aB (pu X.ro) x,aB (aB (pu X.kv) (rp dS)) xs,aB (aB (pu X.qf) x) x,aB (pu X.uB) x,aB (pu X.mY) dN,aB (pu X.iR) dN,aB (aB (pu X.mu) dN) (dB id),aB (aB (pu X.si) x) dN]
noncomputable def dY:Nat->De Y
 | 0=>pu .brk
 | k+1=>let y:=dY k;let ys:=rp y;let x:=dX 20;let xs:=rp x;let t:=dT 5;sel (dM 4 3 12) (pu .brk) [aB (pu Y.ret) x,aB (aB (aB (pu Y.ifs) x) ys) ys,aB (aB (pu Y.asg) t) x,aB (pu Y.cB) x,aB (aB (aB (pu Y.e3) t) (dI x)) ys,aB (pu Y.expr) x,aB (aB (aB (pu Y.q0) x) (rp dS)) x,aB (aB (aB (dO Y.eL) x) x) x,aB (aB (pu Y.dy) dN) x,aB (aB (dO Y.vO) dN) x,aB (aB (aB (dO Y.rQ) x) dS) x,aB (aB (pu Y.gp) x) ys,aB (pu Y.lT) dN,aB (aB (aB (pu Y.yd) x) dN) dS,aB (aB (pu Y.hX) dN) xs,aB (aB (aB (pu Y.c8) x) x) x,pu Y.brk,aB (pu Y.qc) dN,aB (aB (aB (aB (pu Y.lU) dN) dN) (dB id)) x,aB (aB (aB (pu Y.oset) dN) x) x,aB (aB (pu Y.pz) dN) x,aB (aB (pu Y.pC) dN) x,aB (aB (pu Y.j3) dN) x]
def dF(n:Nat):Fn:=(aB (aB (aB (aB (pu Fn.mk) (rp (dV id))) dN) dN) (rp (dY 20)) n).1
namespace T
noncomputable abbrev s(x:Str):=X.lit (.str x)
noncomputable abbrev i(x:Int):=X.lit (.int x)
noncomputable abbrev p:=X.prim
noncomputable abbrev k:=X.call
noncomputable abbrev m:=X.pF
noncomputable abbrev a(n:Nat):=Y.asg (.loc n)
noncomputable abbrev c(o:CmpOp)(x y:X):=X.prim (.cmp o) [x,y]
noncomputable abbrev b(o:Operator)(x y:X):=X.prim (.bin o) [x,y]
noncomputable abbrev f(o:x7)(x:X):=X.prim (.ek o) [x]
noncomputable abbrev it:=X.prim .item
noncomputable abbrev g(x:X)(n:Int):=X.prim .item [x,.lit (.int n)]
noncomputable abbrev e(n:Str)(x:X):=X.prim (.attr n) [x]
noncomputable abbrev l0:=X.loc 0
noncomputable abbrev l1:=X.loc 1
noncomputable abbrev l2:=X.loc 2
noncomputable abbrev l3:=X.loc 3
noncomputable abbrev l4:=X.loc 4
noncomputable abbrev l5:=X.loc 5
noncomputable abbrev l6:=X.loc 6
noncomputable abbrev l7:=X.loc 7
noncomputable abbrev l8:=X.loc 8
noncomputable abbrev l9:=X.loc 9
noncomputable abbrev oW:=X.loc 10
noncomputable abbrev FP:=X.loc 11
noncomputable abbrev xi:=X.loc 12
noncomputable abbrev FO:=X.loc 13
noncomputable abbrev FN:=X.loc 14
noncomputable abbrev QG:=X.loc 15
noncomputable abbrev QF:=X.loc 16
noncomputable abbrev S3:=X.loc 17
noncomputable abbrev S2:=X.loc 18
noncomputable abbrev S1:=X.loc 19
noncomputable abbrev S0:=X.loc 20
end T
section
open T
def ti:Fn:={[.int 0],2,3,[a 2 (b .Add (e "at" l0) l1),.ifs (c .GtE l2 (f .len (e "tokens" l0))) [a 2 (b .Sub (f .len (e "tokens" l0)) (i 1))] [],.ret (it [e "tokens" l0,l2])]}
def dQ:Fn:={[],1,1,[.gp (.ba true [c .Eq (g (m 263 "look" l0 []) 0) (s "end"),c .Eq (g (m 263 "look" l0 []) 1) (s "\n")]) [.rQ .Add l0 "at" (i 1)]]}
def wc:Fn:={[],3,5,[a 3 (m 263 "look" l0 []),.ifs (c .NotIn (g l3 0) (p .tup [s "word",s "string"])) [.cB (k 333 [l0,s "value"])] [],a 4 (k 410 [l0,l1,g l3 1]),.ifs (c .Lt l4 l2) [.cB (m 319 "fault" l0 [s "Range negative size"])] [],.expr (m 270 "take" l0 []),.ret l4]}
def kz:Fn:={[],2,6,[a 2 (m 263 "look" l0 []),.ifs (c .NotIn (g l2 0) (p .tup [s "word",s "string"])) [.cB (k 333 [l0,s "value"])] [],a 3 (.ba true [c .Eq (g (k 382 [l0,g l1 0]) 2) (s "name"),c .Eq (p .mN [g l2 1,p .neg [i 1]]) (s "*")]),.ifs (.ba false [c .Eq (g l2 0) (s "word"),l3]) [a 4 (k 403 [l0,l1,g l2 1])] [a 5 (k 410 [l0,l1,g l2 1]),a 4 (p .tup [l5,l5])],.expr (m 270 "take" l0 []),.ifs (.ba true [c .Eq (g l2 0) (s "string"),p .not [l3],m 284 "is_word" l0 [s "-"],c .Eq (g (m 263 "look" l0 [i 1]) 0) (s "string")]) [.expr (m 270 "take" l0 []),a 4 (p .tup [g l4 0,k 417 [l0,l1,g l4 0]])] [],.ret l4]}
def jP:Fn:={[],3,3,[.ifs (k 389 [l0,l1]) [.gp (m 291 "skip_sign" l0 [s "|"]) [a 2 (b .BitOr l2 (k 424 [l0,l1]))]] [],.ret l2]}
def eI:Fn:={[],2,6,[.hX 2 [],.e3 (.loc 3) (.val l1) [.ifs (c .Gt (.mY 2) (i 0)) [.expr (m 298 "want_sign" l0 [s "."])] [],.asg (.tup [.loc 4,.loc 5]) (k 431 [l0,l3]),.ifs (c .Eq l4 l5) [a 4 (k 438 [l0,l3,l4]),a 5 l4] [],.dy 2 (p .tup [l4,l5])],.ret (.iR 2)]}
def fh:Fn:={[],3,6,[.ifs (c .Eq l1 (s "verdict")) [a 3 (k 452 [l0]),.ifs (p .iE [l3]) [.cB (k 333 [l0,s "verdict"])] [],.ret l3] [],.hX 4 [],.e3 (.loc 5) (.val l1) [.ifs (.ba true [c .Gt (.mY 4) (i 0),p .not [l2],p .not [m 277 "is_sign" l0 [s "."]]]) [.brk] [],.ifs (c .Gt (.mY 4) (i 0)) [.expr (m 298 "want_sign" l0 [s "."])] [],.dy 4 (k 438 [l0,l5,k 424 [l0,l5]])],.ret (.iR 4)]}
def k_:Fn:={[],4,7,[a 4 (k 459 [l0,l1]),a 5 (i 0),a 6 (s ""),.ifs (m 284 "is_word" l0 [s "timeout"]) [.expr (m 270 "take" l0 []),a 5 (k 375 [l0])] [],.ifs (m 284 "is_word" l0 [s "comment"]) [a 6 (k 368 [l0])] [],.ifs (p .iE [l2]) [.ret (p .tup [l4,.lit .none,l5,l6])] [],.expr (m 298 "want_sign" l0 [s ":"]),.ret (p .tup [l4,k 466 [l0,l2,l3],l5,l6])]}
def b0:Fn:={[.int 0],5,6,[.ifs (c .Eq l4 (i 32)) [.cB (k 445 [l0])] [],.expr (m 298 "want_sign" l0 [s "{"]),.expr (m 312 "skip_rows" l0 []),.hX 5 [],.gp (p .not [m 277 "is_sign" l0 [s "}"]]) [.ifs (m 277 "is_sign" l0 [s "{"]) [.pz 5 (k 481 [l0,l1,l2,l3,b .Add l4 (i 1)])] [.dy 5 (k 473 [l0,l1,l2,l3])],.expr (m 312 "skip_rows" l0 []),.ifs (p .not [m 291 "skip_sign" l0 [s ","]]) [.brk] [],.expr (m 312 "skip_rows" l0 [])],.expr (m 298 "want_sign" l0 [s "}"]),.ret (.iR 5)]}
def iv:Fn:={[],1,1,[.gp (c .Eq (g (m 263 "look" l0 []) 0) (s "end")) [.expr (m 270 "take" l0 [])]]}
def y8:Fn:={[],1,1,[.ifs (.ba true [c .NotIn (g (m 263 "look" l0 []) 0) (p .tup [s "end",s "eof"]),p .not [m 277 "is_sign" l0 [s "}"]]]) [.cB (k 333 [l0,s "newline or semicolon"])] [],.expr (k 495 [l0])]}
def vq:Fn:={[],2,3,[.ifs (.ba false [p .iE [l1],c .Eq l1 (s "verdict")]) [.ret l1] [],.ret (f .tuple (.comp (p .tup [l2,g (it [e "types" l0,l2]) 0]) (.loc 2) (.val l1) []))]}
def gY:Fn:={[],1,2,[.hX 1 [k 535 [l0]],.gp (m 291 "skip_sign" l0 [s "."]) [.dy 1 (k 535 [l0])],.ret (.iR 1)]}
def cC:Fn:={[],1,5,[a 1 (p .tup [s "constant",s "dynamic",s "interval",s "timeout"]),.qc 2,a 3 (.lit (.bool true)),.gp l3 [.oset 2 (k 523 [l0,l1,s "unknown set flag"]) (.lit (.bool true)),a 3 (m 291 "skip_sign" l0 [s ","])],.ret (f .tuple (.comp l4 (.loc 4) (.val l1) [.si l4 2]))]}
def kZ:Fn:={[],3,6,[a 3 (p .tup [s "type",s "flags",s "timeout",s "size",s "auto-merge",s "elements"]),a 4 (k 516 [l0,l3]),.ifs (c .Eq l4 (s "")) [.cB (k 333 [l0,.met .join (s " or ") [l3]])] [],.ifs (c .In l4 l2) [.cB (m 319 "fault" l0 [s "You can only specify this once"])] [],.ifs (.ba true [c .Eq l4 (s "elements"),c .NotIn (s "type") l2]) [.cB (m 319 "fault" l0 [b .Add l1 (s " definition does not specify key")])] [],.expr (m 270 "take" l0 []),.ifs (c .Eq l4 (s "type")) [.c8 l2 l4 (k 542 [l0]),.ifs (c .Eq l1 (s "map")) [.expr (m 298 "want_sign" l0 [s ":"]),.ifs (m 284 "is_word" l0 [s "verdict"]) [.c8 l2 (s "data") (g (m 270 "take" l0 []) 1)] [.c8 l2 (s "data") (k 542 [l0])]] []] [.ifs (c .Eq l4 (s "flags")) [.c8 l2 l4 (k 547 [l0])] [.ifs (c .Eq l4 (s "timeout")) [.c8 l2 l4 (k 375 [l0])] [.ifs (c .Eq l4 (s "size")) [.c8 l2 l4 (k 354 [l0,b .Sub (b .Pow (i 2) (i 32)) (i 1)])] [.ifs (c .Eq l4 (s "auto-merge")) [.c8 l2 l4 (.lit (.bool true))] [.expr (m 298 "want_sign" l0 [s "="]),a 5 (k 528 [e "tongue" l0,it [l2,s "type"]]),.c8 l2 l4 (k 488 [l0,l5,k 528 [e "tongue" l0,.met .eH l2 [s "data",.lit .none]]])]]]]]]}
def dK:Fn:={[],2,5,[a 2 (.kv [] []),.expr (k 509 [l0]),.gp (p .not [m 291 "skip_sign" l0 [s "}"]]) [.expr (k 554 [l0,l1,l2]),.expr (k 502 [l0])],.ifs (c .NotIn (s "type") l2) [.cB (m 319 "fault" l0 [b .Add l1 (s " definition does not specify key")])] [],a 3 (.met .eH l2 [s "flags",p .tup []]),.ifs (.ba true [c .NotEq (.met .eH l2 [s "timeout",i 0]) (i 0),c .NotIn (s "timeout") l3]) [a 3 (b .Add l3 (p .tup [s "timeout"]))] [],a 4 (p .tup [it [l2,s "type"],.met .eH l2 [s "data",.lit .none],l3,.met .eH l2 [s "timeout",i 0],.met .eH l2 [s "size",i 0],c .In (s "auto-merge") l2]),.ret (p .tup [l4,.met .eH l2 [s "elements",p .tup []]])]}
def g_:Fn:={[],1,2,[a 1 (i 0),.gp (.ba true [c .NotEq (g (m 263 "look" l0 [l1]) 0) (s "eof"),c .NotEq (p .gK [m 263 "look" l0 [l1],i 2]) (p .tup [s "sign",s "}"])]) [.ifs (c .Eq (p .gK [m 263 "look" l0 [l1],i 2]) (p .tup [s "sign",s ":"])) [.ret (.lit (.bool true))] [],.vO .Add 1 (i 1)],.ret (.lit (.bool false))]}
def qA:Fn:={[],4,7,[.asg (.tup [.loc 4,.loc 5]) (k 561 [l0,l2]),.c8 (e "known" l0) (p .tup [e "family" l0,e "table" l0,l3]) l4,.hX 6 [k 575 [l0,l1,l2,l3,l4]],.ifs (c .Gt (f .len l5) (i 0)) [.dy 6 (k 575 [l0,s "add",s "element",l3,l5])] [],.lT 6]}
def gZ:Fn:={[],3,6,[a 3 (p .tup [e "family" l0,e "table" l0,l2]),.ifs (c .NotIn l3 (e "known" l0)) [.rQ .Sub l0 "at" (i 1),.cB (m 319 "fault" l0 [s "No such file or directory"])] [],a 4 (it [e "known" l0,l3]),a 5 (k 528 [e "tongue" l0,g l4 1]),.ifs (.ba true [c .In l1 (p .tup [s "delete",s "destroy"]),p .not [k 568 [l0]]]) [a 5 (.lit .none)] [],.ret (k 488 [l0,k 528 [e "tongue" l0,g l4 0],l5])]}
def kA:Fn:={[],2,4,[a 2 (.cM (c .NotEq (it [l0,s "row"]) (p .lst [])) (.uB (it [l0,s "row"])) (i 0)),a 3 (b .Mod (b .Add l2 (it [l0,s "rest"])) l1),.c8 l0 (s "rest") (b .FloorDiv (it [l0,s "rest"]) l1),.ret l3]}
def y9:Fn:={[],2,2,[.ret (it [l1,k 624 [l0,f .len l1]])]}
def nL:Fn:={[],1,4,[.hX 1 [],.e3 (.loc 2) (.val (.met .split l0 [s " "])) [a 3 (.cM (c .In l2 (p .tup [s "{",s "}",s "=",s ",",s ".",s ":",s "|"])) (s "sign") (.cM (c .In l2 (p .tup [s ";",s "\n"])) (s "end") (s "word"))),.ifs (c .NotEq l2 (s "")) [.dy 1 (.cM (c .Eq (g l2 0) (s "!")) (p .tup [s "string",p .mN [l2,i 1]]) (p .tup [l3,l2]))] []],.lT 1]}
def y_:Fn:={[],1,1,[.ret (it [p .lst [p .tup [s "inet_service",i 16,s "number",p (.bH ["ftp","ssh"]) [i 21,i 22]],p .tup [s "tcp_flag",i 8,s "mask",p (.bH ["fin","syn","ack"]) [i 1,i 2,i 16]],p .tup [s "ifname",i 128,s "name",p (.bH []) []],p .tup [s "ipv4_addr",i 32,s "ip4",p (.bH []) []]],l0])]}
def vm:Fn:={[],1,1,[.ret (it [p (.bH ["inet_service","tcp_flag","ifname","ipv4_addr"]) [p .lst [s "22",s "ftp",s "5-9",s "0x10",s "70000",s "9-5",s "ssh-25"],p .lst [s "syn",s "fin | ack",s "3",s "300",s "1-5"],p .lst [s "eth0",s "!lo",s "wan*",s "!w*",s "!a - !c",s "!c - !a",s "a/b"],p .lst [s "10.0.0.1",s "10.0.0.0/8",s "10.0.0.1-10.0.0.9",s "300.1.1.1",s "10.0.0.0/33",s "10.0.0.9-10.0.0.1"]],g l0 0])]}
def za:Fn:={[],1,1,[.ret (k 631 [l0,p .lst [s " ; ",s " \n ",s " ; \n "]])]}
def vp:Fn:={[],2,3,[.ret (.met .join (s " . ") [.comp (k 631 [l0,k 657 [l2]]) (.loc 2) (.val l1) []])]}
def mB:Fn:={[],3,4,[a 3 (b .Add (k 669 [l0,l1]) (k 631 [l0,p .lst [s "",s "",s " timeout 2s",s " comment !hi",s " timeout 90 comment x"]])),.ifs (c .Eq l2 (s "verdict")) [.ret (b .Add (b .Add l3 (s " : ")) (k 631 [l0,p .lst [s "accept",s "jump c",s "return",s "goto !s",s "maybe"]]))] [],.ret (.cM (p .iE [l2]) l3 (b .Add (b .Add l3 (s " : ")) (k 669 [l0,l2])))]}
def rJ:Fn:={[],3,6,[a 3 (s "{ "),.e3 (.loc 4) (.kr (k 624 [l0,i 4])) [a 5 (k 676 [l0,l1,l2]),a 3 (b .Add l3 (k 631 [l0,p .lst [b .Add l5 (s " , "),b .Add l5 (s " , \n "),b .Add (b .Add (s "{ ") l5) (s " } , "),b .Add l5 (s " \n ")]]))],.ret (b .Add l3 (s "}"))]}
def wg:Fn:={[],1,5,[a 1 (c .Eq (k 624 [l0,i 2]) (i 1)),a 2 (.comp (k 645 [k 624 [l0,i 4]]) (.loc 4) (.kr (b .Add (i 1) (k 624 [l0,i 2]))) []),a 3 (.lit .none),.ifs l1 [a 3 (k 631 [l0,p .lst [s "verdict",p .lst [k 645 [i 0]],p .lst [k 645 [i 3],k 645 [i 1]]]])] [],.ret (p .tup [l1,l2,l3])]}
def rG:Fn:={[],2,5,[a 2 (b .Add (s "type ") (.met .join (s " . ") [.comp (g l3 0) (.loc 3) (.val l0) []])),.ifs (p .iE [l1]) [.ret l2] [],.ret (b .Add (b .Add l2 (s " : ")) (.cM (c .Eq l1 (s "verdict")) l1 (.met .join (s " . ") [.comp (g l4 0) (.loc 4) (.val l1) []])))]}
def wh:Fn:={[],3,6,[a 3 (s "{ "),.e3 (.loc 4) (.kr (k 624 [l0,i 6])) [a 5 (k 624 [l0,i 6]),.ifs (c .Eq l5 (i 0)) [a 3 (b .Add l3 (k 693 [l1,l2]))] [.ifs (c .Lt l5 (i 5)) [a 3 (b .Add l3 (k 631 [l0,it [p .lst [p .lst [s "flags interval",s "flags timeout , interval",s "flags constant , odd",s "flags dynamic"],p .lst [s "timeout 2s",s "timeout 0",s "timeout x",s "timeout 90"],p .lst [s "size 5",s "size 4294967296",s "size -1",s "size 0x10"],p .lst [s "auto-merge"]],b .Sub l5 (i 1)]]))] [a 3 (b .Add (b .Add l3 (s "elements = ")) (k 683 [l0,l1,l2]))]],a 3 (b .Add l3 (k 664 [l0]))],.ret (b .Add l3 (s "} ;"))]}
def mC:Fn:={[],4,7,[a 4 (b .Mod l2 (f .len l0)),a 5 (it [k 638 [s "{ } ; \n = , . : | type flags elements timeout comment 5 70000 accept jump interval size !s - syn 10.0.0.1 w*"],l3]),a 6 (it [p .lst [p .mM [l0,l4,b .Add l4 (i 1)],p .lst [],p .lst [it [l0,l4],it [l0,l4]],p .lst [l5]],l1]),.ret (b .Add (b .Add (p .gK [l0,l4]) l6) (p .mN [l0,b .Add l4 (i 1)]))]}
def vo:Fn:={[],1,6,[.lU 1 2 true (i 1),.e3 (.tup [.loc 3,.tup [.loc 4,.loc 5]]) (.nP l0) [.dy 1 (p .tup [l4,l5,l2,b .Add (b .Mult (i 3) l3) (i 1)]),a 2 (b .Add l2 (.cM (c .Eq l5 (s "\n")) (i 1) (i 0)))],.j3 1 (p .lst [p .tup [s "eof",s "",l2,b .Add (b .Mult (i 3) (f .len l0)) (i 1)]])]}
def BQ:Fn:={[],1,1,[.ret (it [it [l0,s "tokens"],.prim (.ek .min) [it [l0,s "at"],b .Sub (f .len (it [l0,s "tokens"])) (i 1)]])]}
def we:Fn:={[],1,1,[.eL .Add l0 (s "at") (i 1),.ret (g (it [it [l0,s "tokens"],b .Sub (it [l0,s "at"]) (i 1)]) 1)]}
def jb:Fn:={[],2,2,[.gp (.ba true [c .Eq (g (k 721 [l0]) 0) (s "end"),c .In (g (k 721 [l0]) 1) l1]) [.eL .Add l0 (s "at") (i 1)]]}
def th:Fn:={[],1,1,[.ifs (.ba true [c .NotIn (g (k 721 [l0]) 0) (p .tup [s "end",s "eof"]),p .not [k 742 [l0,s "sign",s "}"]]]) [.cB (k 735 [l0,s "newline or semicolon"])] [],.expr (k 770 [l0,s ";\n"])]}
def j_:Fn:={[],3,4,[.ifs (c .NotIn (g (k 721 [l0]) 0) (p .tup [s "word",s "string"])) [.cB (k 735 [l0,s "value"])] [],a 3 (k 820 [l1,g (k 721 [l0]) 1]),a 3 (g (k 841 [l0,l1,.cM (p .iE [l3]) (.lit .none) (p .tup [l3,l3])]) 0),.ifs (c .Lt l3 l2) [.cB (k 728 [l0,s "Range negative size"])] [],.eL .Add l0 (s "at") (i 1),.ret l3]}
def fL:Fn:={[],3,3,[.gp (.ba true [c .Eq (g l1 2) (s "mask"),k 742 [l0,s "sign",s "|"]]) [.eL .Add l0 (s "at") (i 1),a 2 (b .BitOr l2 (k 848 [l0,l1,i 0]))],.ret l2]}
def eh:Fn:={[],2,8,[.asg (.tup [.loc 2,.loc 3]) (p .gK [k 721 [l0],i 2]),.ifs (c .NotIn l2 (p .tup [s "word",s "string"])) [.cB (k 735 [l0,s "value"])] [],a 4 (.ba true [c .Eq (g l1 2) (s "name"),c .Eq (p .mN [l3,p .neg [i 1]]) (s "*")]),a 5 (k 834 [l1,l3]),.ifs (.ba true [c .Eq l2 (s "string"),p .not [l4]]) [a 6 (k 820 [l1,l3]),a 5 (.cM (p .iE [l6]) (.lit .none) (p .tup [l6,l6]))] [],a 5 (k 841 [l0,l1,l5]),.eL .Add l0 (s "at") (i 1),a 7 (it [it [l0,s "tokens"],.prim (.ek .min) [b .Add (it [l0,s "at"]) (i 1),b .Sub (f .len (it [l0,s "tokens"])) (i 1)]]),.ifs (.ba true [c .Eq l2 (s "string"),p .not [l4],k 742 [l0,s "word",s "-"],c .Eq (g l7 0) (s "string")]) [.eL .Add l0 (s "at") (i 1),a 5 (p .tup [g l5 0,k 848 [l0,l1,g l5 0]])] [],.ifs (c .Eq (g l5 0) (g l5 1)) [a 6 (k 855 [l0,l1,g l5 0]),.ret (p .tup [l6,l6])] [],.ret l5]}
def fj:Fn:={[],3,5,[.hX 3 [],.e3 (.loc 4) (.val l1) [.ifs (.mu 3 false) [.expr (k 756 [l0,s "sign",s "."])] [],.dy 3 (.cM l2 (k 862 [l0,l4]) (k 855 [l0,l4,k 848 [l0,l4,i 0]]))],.ret (.iR 3)]}
def i2:Fn:={[],3,6,[.asg (.tup [.loc 3,.loc 4,.loc 5]) (p .tup [k 869 [l0,l1,.lit (.bool true)],i 0,s ""]),.ifs (k 742 [l0,s "word",s "timeout"]) [.eL .Add l0 (s "at") (i 1),a 4 (k 803 [l0])] [],.ifs (k 742 [l0,s "word",s "comment"]) [.eL .Add l0 (s "at") (i 1),a 5 (k 763 [l0])] [],.ifs (p .iE [l2]) [.ret (p .tup [l3,.lit .none,l4,l5])] [],.expr (k 756 [l0,s "sign",s ":"]),.ret (p .tup [l3,.cM (c .Eq l2 (s "verdict")) (k 876 [l0]) (k 869 [l0,l2,.lit (.bool false)]),l4,l5])]}
def aZ:Fn:={[],3,5,[.expr (k 756 [l0,s "sign",s "{"]),.lU 3 4 true (.lit (.bool true)),.expr (k 770 [l0,s "\n"]),.gp (.ba true [l4,p .not [k 742 [l0,s "sign",s "}"]]]) [.ifs (k 742 [l0,s "sign",s "{"]) [.pC 3 (f .list (k 890 [l0,l1,l2]))] [.dy 3 (k 883 [l0,l1,l2])],.expr (k 770 [l0,s "\n"]),a 4 (k 742 [l0,s "sign",s ","]),.ifs l4 [.eL .Add l0 (s "at") (i 1),.expr (k 770 [l0,s "\n"])] []],.expr (k 756 [l0,s "sign",s "}"]),.ret (.iR 3)]}
def cS:Fn:={[],1,4,[.hX 1 [],.gp (.ba false [.mu 1 true,k 742 [l0,s "sign",s "."]]) [.eL .Add l0 (s "at") (.cM (.mu 1 false) (i 1) (i 0)),.asg (.tup [.loc 2,.loc 3]) (p .gK [k 721 [l0],i 2]),.ifs (c .NotEq l2 (s "word")) [.cB (k 735 [l0,s "string"])] [],.ifs (c .Eq (k 650 [l3]) (p .lst [])) [.cB (k 728 [l0,b .Add (b .Add (s "unknown datatype '") l3) (s "'")])] [],.dy 1 (k 749 [l0])],.ret (.iR 1)]}
def cT:Fn:={[],1,4,[.lU 2 1 false (p .tup [s "constant",s "dynamic",s "interval",s "timeout"]),.gp (.ba false [.mu 2 true,k 742 [l0,s "sign",s ","]]) [.eL .Add l0 (s "at") (.cM (.mu 2 false) (i 1) (i 0)),.ifs (.ba false [c .NotEq (g (k 721 [l0]) 0) (s "word"),c .NotIn (g (k 721 [l0]) 1) l1]) [.cB (k 728 [l0,s "unknown set flag"])] [],.dy 2 (k 749 [l0])],.ret (f .tuple (.comp l3 (.loc 3) (.val l1) [.si l3 2]))]}
def rI:Fn:={[],1,2,[.ret (.cM (.ba false [p .iE [l0],c .Eq l0 (s "verdict")]) l0 (.comp (g (k 650 [l1]) 0) (.loc 1) (.val l0) []))]}
def mA:Fn:={[],3,5,[a 3 (p .lst [s "type",s "flags",s "timeout",s "size",s "auto-merge",s "elements"]),a 4 (g (k 721 [l0]) 1),.ifs (.ba false [c .NotEq (g (k 721 [l0]) 0) (s "word"),c .NotIn l4 l3]) [.cB (k 735 [l0,.met .join (s " or ") [l3]])] [],.ifs (c .In l4 l2) [.cB (k 728 [l0,s "You can only specify this once"])] [],.ifs (.ba true [c .Eq l4 (s "elements"),c .NotIn (s "type") l2]) [.cB (k 728 [l0,b .Add l1 (s " definition does not specify key")])] [],.eL .Add l0 (s "at") (i 1),.ifs (c .Eq l4 (s "type")) [.c8 l2 l4 (k 897 [l0]),.ifs (c .Eq l1 (s "map")) [.expr (k 756 [l0,s "sign",s ":"]),.c8 l2 (s "data") (.cM (k 742 [l0,s "word",s "verdict"]) (k 749 [l0]) (k 897 [l0]))] []] [.ifs (c .Eq l4 (s "flags")) [.c8 l2 l4 (k 902 [l0])] [.ifs (c .Eq l4 (s "timeout")) [.c8 l2 l4 (k 803 [l0])] [.ifs (c .Eq l4 (s "size")) [.c8 l2 l4 (k 796 [l0,b .Sub (b .Pow (i 2) (i 32)) (i 1)])] [.ifs (c .Eq l4 (s "auto-merge")) [.c8 l2 l4 (.lit (.bool true))] [.expr (k 756 [l0,s "sign",s "="]),.c8 l2 l4 (k 890 [l0,k 907 [it [l2,s "type"]],k 907 [.met .pK l2 [s "data"]]])]]]]]]}
def cW:Fn:={[],2,7,[a 2 (.kv [] []),.expr (k 756 [l0,s "sign",s "{"]),.expr (k 770 [l0,s ";\n"]),.gp (p .not [k 742 [l0,s "sign",s "}"]]) [.expr (k 914 [l0,l1,l2]),.expr (k 777 [l0])],.eL .Add l0 (s "at") (i 1),.ifs (c .NotIn (s "type") l2) [.cB (k 728 [l0,b .Add l1 (s " definition does not specify key")])] [],.asg (.tup [.loc 3,.loc 4]) (p .tup [.met .eH l2 [s "flags",p .tup []],.met .eH l2 [s "timeout",i 0]]),.ifs (.ba true [c .Gt l4 (i 0),c .NotIn (s "timeout") l3]) [a 3 (b .Add l3 (p .tup [s "timeout"]))] [],a 5 (p .tup [it [l2,s "type"],.met .pK l2 [s "data"],l3,l4,.met .eH l2 [s "size",i 0],c .In (s "auto-merge") l2]),.hX 6 [p .tup [s "add",l1,s "inet",s "t",s "s",l5]],.ifs (c .NotEq (.met .eH l2 [s "elements",p .tup []]) (p .tup [])) [.dy 6 (p .tup [s "add",s "element",s "inet",s "t",s "s",it [l2,s "elements"]])] [],.lT 6]}
def j9:Fn:={[],5,11,[.ifs (p .not [l2]) [.eL .Sub l0 (s "at") (i 1),.cB (k 728 [l0,s "No such file or directory"])] [],a 5 (.comp l8 (.tup [.loc 8,.loc 9]) (.nP (it [l0,s "tokens"])) [.ba true [c .GtE l8 (it [l0,s "at"]),.ba false [c .Eq (p .gK [l9,i 2]) (p .tup [s "sign",s "}"]),c .Eq (g l9 0) (s "eof")]]]),a 6 (.comp oW (.loc 10) (.lS (it [l0,s "at"]) (g l5 0)) [c .Eq (p .gK [it [it [l0,s "tokens"],oW],i 2]) (p .tup [s "sign",s ":"])]),a 7 (.ba true [c .NotEq l1 (s "add"),c .Eq l6 (p .lst [])]),.ret (k 890 [l0,k 907 [l3],.cM l7 (.lit .none) (k 907 [l4])])]}
def rH:Fn:={[],1,1,[.ret (p .tup [k 582 [g l0 0,s "add",g l0 1,s "s"],e "at" (g l0 0)])]}
def nK:Fn:={[],1,1,[.ret (p .tup [k 921 [g l0 0,g l0 1],it [g l0 0,s "at"]])]}
def pL:Fn:={[],1,1,[.ret (p .tup [k 589 [g l0 0,g l0 1,s "s"],e "at" (g l0 0)])]}
def mf:Fn:={[],1,1,[.ret (p .tup [k 926 [g l0 0,g l0 1,g l0 2,g l0 3,g l0 4],it [g l0 0,s "at"]])]}
def o8:Fn:={[],2,21,[a 2 (.kv ["row","rest"] [.ro l0,l1]),.asg (.tup [.loc 3,.loc 4,.loc 5]) (p .tup [k 624 [l2,i 4],k 624 [l2,i 50],k 624 [l2,i 25]]),.asg (.tup [.loc 6,.loc 7]) (p .tup [c .Eq (k 624 [l2,i 4]) (i 1),it [p .lst [s "add",s "delete",s "destroy"],k 624 [l2,i 3]]]),.asg (.tup [.loc 8,.loc 9,.loc 10]) (k 688 [l2]),a 11 (.cM l8 (s "map") (s "set")),a 12 (k 714 [k 707 [k 638 [k 700 [l2,l9,oW]],l3,l4,l5]]),a 13 (k 973 [xi]),a 14 (k 938 [.glob 952,p .tup [.kv ["tokens","at"] [xi,i 0],FP]]),.ifs (c .NotEq (k 938 [.glob 945,p .tup [FO,FP]]) FN) [.ret (.lit (.bool false))] [],.ifs (p .sj [e "known" FO,.cM (c .Eq (g FN 0) (s "read")) (p .j6 [p .tup [s "inet",s "t",s "s"],g (g (g (g FN 1) 0) 0) 5]) (p .j7 [])]) [.ret (.lit (.bool false))] [],a 15 (f .tuple (.comp (g S1 0) (.loc 19) (.val l9) [])),a 16 (.cM (.ba false [p .iE [oW],c .Eq oW (s "verdict")]) oW (f .tuple (.comp (g S0 0) (.loc 20) (.val oW) []))),a 17 (.cM (.ba true [c .NotEq l7 (s "add"),c .Eq (k 624 [l2,i 2]) (i 0)]) (.lit .none) oW),a 18 (b .Add (b .Add (s "s ") (k 683 [l2,l9,S3])) (s " ;")),a 12 (k 714 [k 707 [k 638 [S2],l3,b .Add (i 1) (b .Mod l4 (i 7)),l5]]),a 13 (k 973 [xi]),.q0 FO ["at","known"] (p .tup [i 1,.qf (p .tup [s "inet",s "t",.cM l6 (s "r") (s "s")]) (p .tup [QG,QF,p .tup [],i 0,i 0,.lit (.bool false)])]),a 14 (k 938 [.glob 966,p .tup [.kv ["tokens","at"] [xi,i 1],l7,p .not [l6],QG,QF]]),.ret (c .Eq (k 938 [.glob 959,p .tup [FO,l7]]) FN)]}
def O8:Fn:={[],1,4,[a 0 (p .gK [l0,i 63]),.e3 (.tup [.loc 1,.loc 2]) (.nP (k 617 [])) [a 3 (f .sum (p .mL [l0,l1,i 6])),.ifs (c .NotEq l1 (b .Mod (b .Sub (f .len l0) (i 1)) (i 6))) [a 3 (b .Mod l3 (i 60000))] [],.ifs (p .not [k 978 [l2,l3]]) [.ret (.lit (.bool false))] []],.ret (.lit (.bool true))]}
end
def eE:List (Addr×Fn):= [(73,dF 0x12a2f085e2d825cc2153416121bbda29e114f32d865602da3e30b738e199090d70532e13b7bc9bf4793347dc02a34),(80,dF 0x78235e543c6988e2d71b1c2036d3e9259d33e273ed1b03e10d1bda628efec9f23322e65ed0),(87,dF 0x2e838cb5b46f8d3863c973814ab9920dc3e855400fa1e525be1c9cea6168e4ebc),(94,dF 0x2e460a15c435105d76f28d3c49537c43e2d5be2d3697ac6b749032b4efeb260946843917f10a882ca5e6be44ca3439fffee0cc74f5194d6b0f3ab180),(101,dF 0x502a228b5e4f71ecb5d8cb723dcf0b90a542ce743cc832d1d2cd5cfb821e699c904578c00368bce570b68ac4bd94ce00fcaeddf1efb1f31eabf32b68e3a8acfab96997dd8e816f23504a2e21f34),(115,dF 0xc234feb320fe13d584),(122,dF 0x7c97d6b9c9dd4543fc1c9785976d070a4),(129,dF 0x9f23de7743463fc52dc4bde9daaf045f0a29704405cd5d1d914e817eb3b1ea8901d0e292d1d659b42720c689d2880f2da95a03a31bf103f67bae21f34),(136,dF 0x49cc739af53c397e8ca2ccac2a21e3bc57ace002a33ee329205ad11c1f3af9d17eb3d897638c33032e65e94),(143,dF 0xe81ccd8de6182aad933442c4bb1d97f0a01e29b21f20a5c137176eb0d0),(150,dF 0xccc3416b2c9824ff7413e88fb5ad9b8bd538),(157,dF 0x2838315d1c1cfda6fc83a2659e5f5b737d0db9e6f7fd7d14c0b138fd1f44),(164,dF 0x1ccebaf2006181455a938f3783e0618),(171,dF 0x8f28ca743589dfe921942e225f025cecfdbeaf1c715d84d865221689adcc4bbfacaa5f29382ea755c2d19cba63f00b9c86e48c983251f0f73e13002b19b767715dc74ef33b6f0b824d362899a3497de86343778bdeabeb9d8cae74308),(178,dF 0x1e63f13325d9b5572efd94f3e853812b577810d78483778),(185,dF 0x14d1f80e50594b24cf1c34cdfbfbf3cc95d69cb42547ab856f293bba2198f88bedff8),(192,dF 0x50b9050ce394a7b6fbed28485c7cc00db7c72d0df44a432bbd5e7e5bcfe615d5f27794aac04919fb88db27ee99963d4f0cac4d38c0),(199,dF 0x9402b9dc59eb7b78684a3a3271835445c09a2d8ff7bbf0bfca0),(206,dF 0x4f0528b3d7536e4ddfcb5a844a365ee3f6266caba56d73c0e9f4c61a1139b8ebaf30522b79cd9da3bb6640eb2f2115f8ebe51798e29c487ed2aa3cffd39dccab49a40a5c00a49e200b4),(213,dF 0x4eb7bf506158eebb6bceeb61cf2f87d94688e17ec5991a65e88),(220,dF 0x29821e92e5392d63bbce317e54bff94b61b1271b8bd9e6aa15beedb6529d9ff7b3a9a234ed0fb8f8217a00f89dbbc82a284),(227,dF 0x3fa4eea2ea11febd4d1192a6644799d8f21850a0cf18910b9339d39010547eea970858553880a1e251cbe8116b72d42daee0537d04adc),(234,dF 0x70fec4c1950b89186ceab9ff1305d097c772d7474326b5637d70ccd4c),(241,dF 0x3c28ad1b99a4b75992633bb969b300b6ce3c404),(255,dF 0x59e97e3d228fe3898b6d07cf92452043e67f1ffc),(263,ti),(270,dF 0x4e8abc1d9043b96b048),(277,dF 0xcd6e04ad8db273ce7b36f2e5c7584),(284,dF 0x291600ecb5fd86591016f2e5c7584),(291,dF 0xac5b6358caf3a2bf1c61dc5b6c),(298,dF 0x15a614ba77c5e18fafc7a0a79d89d94),(305,dF 0x2110d86276a029146290cb5f5b975ea6344b38),(312,dQ),(319,dF 0xfd256ff1481024fa2a5d8547584),(333,dF 0x4994ea11b97f8c4),(340,dF 0x84ba27649e3d09a0e3b403d337c3e2c3818f286d9d186e3bf967cdab994),(347,dF 0x3b9803abcdcaab37fe8e4),(354,dF 0x76f3dcbb8fd9d62fb95ae30f6e53797cfd24e1d1ea04bf4e31d475056918f84),(361,dF 0x10464a807662d4380883441f522db8a35ae63fc738),(368,dF 0x27b5cf7e6bb908ca3411c5ff0b77e5bd3c1032278981030c),(375,dF 0xa9d440249a4b9cd1ab10f7bf2388d84fc4775d6169d93996d77e873f0e188e75d968df3423e6b6b409467e9d13ab994),(382,dF 0x4efb7f15ccbad2f0a95c81b66e0f758),(389,dF 0x295bbfa0ac6255d5ad184),(396,dF 0xa064c20b921b91c86a907923f5f26b946b1c98bcb825677c0b9617cf86523ac),(403,dF 0x562edf70afa08d7f93ae96daddacb1de4),(410,dF 0x562edf70afa08d7f936915bbc172b1de4),(417,wc),(424,dF 0x1fab9fc24c4),(431,kz),(438,jP),(445,dF 0x2582b4f71e8a4),(452,dF 0x353954ae956c78baa9eb5023544b8e5243e1e51dacad3090a4b899620d14313a3873e9b10e564fade6fc09bce9cf80bb0eb668),(459,eI),(466,fh),(473,k_),(481,b0),(488,dF 0x43caf3315614e4),(495,iv),(502,y8),(509,dF 0x5db951527fb88a642c58),(516,dF 0x6fe3803fc167cf09634580e9fd451500418f68),(523,dF 0x30b97f1be04d52f099cdbc9eaa26554a17f598),(528,vq),(535,dF 0x79a6f811f491b2d26dee4076e2b97e302c894b9e9b667239e69f021a1862765ebb2aa7958bc80f47cf238ae77e7b751ad9de3049825b18a7b865580bb0eb978),(542,gY),(547,cC),(554,kZ),(561,dK),(568,g_),(575,dF 0x3a69d9baa83c0d7d21e7e4),(582,qA),(589,gZ),(603,dF 0x53b4aea23c36d8),(617,dF 0x370750390e12dca52be4203ab5a50945016097ecf1e2189e8e15b2b7eee58b2cc35b6b4d2e0de72d64564e671956076d3f95cb66abcf468eaef466bf42443fdf9d53f2d4ed4dfb1c10dac6e1e1c662255ad99c5fd024417cee91f10b63eeb3c29a878c418655d56ccaba5b4eb9b7940a081ebab1f0afc6704ba5bd27582de44),(624,kA),(631,y9),(638,nL),(645,y_),(650,dF 0x3334739b7ee790baef01e5aefc0),(657,vm),(664,za),(669,vp),(676,mB),(683,rJ),(688,wg),(693,rG),(700,wh),(707,mC),(714,vo),(721,BQ),(728,dF 0x3aa3e0e0ab090f1aab8e7d85ea84),(735,dF 0x1c827c5f7803cac9886b330ed7121d73755c278a5c243060b4c74a279c2c53b8653dc2820),(742,dF 0x1005783d8f13adbd1a4),(749,we),(756,dF 0x2b889572ed799c7fff4f0e4361ccba5e71163266ef61e78),(763,dF 0xfa6fa87f19acd62dc937c55dbf6a7dfc738),(770,jb),(777,th),(782,dF 0x473f814f6c4ac27eab6a6fcc34ff178ee74724d934ba6e896affdfda39eea16896c9137e5d2911400af498c5000),(789,dF 0x16ba5e0004ff9514f0fcc04b35e4),(796,dF 0xfebf9ecf6a26b5624b3cc5ca2b9fe1a97d611c519fea315b880834bb06a08c2f6881ab40a681f40fb8af7188),(803,dF 0x1180a359ba8da091175edf24de25eddcf37822a96f52788ce56b54f78804b43140c9f5c8efc21136fead464f7f94f135a90f895283a930),(808,dF 0x11a7eb70a9713744ab245a312bb7e0fddf48e37cac33e5a7a0b2f01e8d4cbadcf55f174ba802a0cfdf6edc226a5fbf2eb2be489c),(813,dF 0xa8bf8157e2cda1198667d16265fc4a7b0b8f9fe727b4b132a19d2da2b15d0d4ed45ad0294f7dbd6cc),(820,dF 0x13746901c3fd5ab5d221f2ab599d76c39eb137055f6e2f5a2e0158854c81e1c89e07ad2c7c),(827,dF 0x1c00c29cece17ad7a7f2afad64ad15255c1b619ad85534bebcdcd8105251d4865a272f6584c3518c5efb6ea72f8cbb1b1c7837f18229bede2cef753de93ebe55aed269d7703d9b097bd779e18afe94c),(834,dF 0x2824eb81d9062934ba46450b62173fa922fd42a57c0041425d51d0a570ac6795b4fa1d1261493ecee303a6744594c87f24651dbd9f341713ef0107a019c01a164fe8a09e2273dfbdd3919e012b3ad51ea4a923a1661563b92152aeb04ac747f1ed97e3d251ff9b84536ece3963d8),(841,dF 0x1413eb030b62df00b7796445812c4139607cf20602a7f6d60cb9f07129beabd0a8ed2227a2d96714098),(848,j_),(855,fL),(862,eh),(869,fj),(876,dF 0x72d3ad9a6e0c0673fb7d598fb1185aeebd2cfa95f99c5fe96ee22fe2347a5b678e2e07a9c408552ed29923818b0b9e37150cd26ae73283a604),(883,i2),(890,aZ),(897,cS),(902,cT),(907,rI),(914,mA),(921,cW),(926,j9),(931,dF 0x248f00700b6dc0776e80f024032ffad81c9bb79cb5b7df7c64abc),(938,dF 0x2d55ce839636ad0),(945,rH),(952,nK),(959,pL),(966,mf),(973,dF 0x19521079e9702ef4be5159717a7b60848),(978,o8),(985,O8)]
noncomputable def ows:List (Addr×Nat):= [(94,2),(459,2),(466,4),(481,5),(542,1),(547,2),(582,6),(638,1),(714,1),(869,3),(890,3),(897,1),(902,2),(921,6)]
section
inductive Tree(α:Type) where
 | fail
 | ret (r:R α)
 | call (f:Addr) (vs:List V) (σ:St) (k:R V->Tree α)
noncomputable def Tree.ctorIdx{a:Type}(v:Tree a):Nat:=v.casesOn 0 (λ ζ=>1) (λ ζ ζ ζ ζ=>2)
noncomputable abbrev Cm:=Addr->List V->St->R V->Prop
inductive Sem{α:Type}(C:Cm):Tree α->R α->Prop
 | rt (r:R α):Sem C (.ret r) r
 | cl {f:Addr} {vs:List V} {σ:St} {k:R V->Tree α} {q:R V} {r:R α} (c:C f vs σ q) (h:Sem C (k q) r):Sem C (.call f vs σ k) r
def Tree.hd{b:Type}(t:Tree b):Option (Addr×List V×St):=Tree.rec (motive:=λ ζ=>Option (Addr×List V×St)) none (λ ζ=>none) (λ f a c ζ ζ=>some (f,a,c)) t
def Tree.rt{a:Type}(t:Tree a):Option (R a):=Tree.rec (motive:=λ ζ=>Option (R a)) none (λ r=>some r) (λ ζ ζ ζ ζ ζ=>none) t
def Tree.nx{a:Type}(t:Tree a)(q:R V):Tree a:=Tree.rec (motive:=λ ζ=>Tree a) .fail (λ ζ=> .fail) (λ ζ ζ ζ k ζ=>k q) t
theorem Sem.call{a}{C}{t}{r:R a}{f}{vs}{σ}{q}(h:t.hd=some (f,vs,σ))(c:C f vs σ q)(k:Sem C (t.nx q) r):Sem C t r:=by
 cases t with
 | fail=>contradiction
 | ret=>contradiction
 | call f vs σ b=>cases h;exact .cl c k
theorem Sem.ret{a}{C}{t}{r:R a}(h:t.rt=some r):Sem C t r:=by
 cases t with
 | fail=>contradiction
 | ret=>cases h;exact .rt _
 | call=>contradiction
def Sem.rr{a}{C:Cm}{r:R a}:Sem C (.ret r) r:=.rt r
def Sem.mono{d}{C a}(m:∀f vs σ r,C f vs σ r->a f vs σ r){r:R d}{t}(h:Sem C t r):Sem a t r:=by
 induction h with
 | rt r=>exact .rt r
 | cl c _ b=>exact .cl (m _ _ _ _ c) b
def Sem.d5{a}{C}{q r:R a}(h:Sem C (.ret q) r):r=q:=by cases h;rfl
def bT{d c:Type}(t:Tree d)(f:d->St->Tree c):Tree c:=
 Tree.rec (motive:=λ ζ=>Tree c) .fail (λ r=>match r with | .ok a σ=>f a σ | .ex e σ=> .ret (.ex e σ)) (λ g i σ ζ h=> .call g i σ h) t
def AT{c d:Type}(C:Cm)(r1:R c)(f:c->St->Tree d)(r:R d):Prop:=match r1 with
 | .ok a b=>Sem C (f a b) r
 | .ex e b=>r= .ex e b
def ml{j l}{C}{f}{r:R l}(t:Tree j)(h:Sem C (bT t f) r):∃r1,Sem C t r1/\AT C r1 f r:=by
 induction t with
 | fail=>exact nomatch show Sem C .fail r from h
 | ret q=>cases q with
  | ok a b=>exact {_,.rt _,h}
  | ex e b=>exact {_,.rt _,Sem.d5 h}
 | call g i b k d=>
  cases show Sem C (.call g i b λ q=>bT _ f) r from h with
  | cl c h=>exact (d _ h).elim λ r1 z=>{r1,.cl c z.1,z.2}
def aC{d i}{C}{f}{r1:R d}{r:R i}{t}(h:Sem C t r1)(g:AT C r1 f r):Sem C (bT t f) r:=by
 induction h with
 | rt r1=>cases r1 with
  | ok a j=>exact g
  | ex e j=>subst g;exact .rt _
 | cl c _ b=>exact .cl c (b g)
def kT{d c:Type}(t:Tree d)(f:d->St->Tree c):Tree c:=
 Tree.rec (motive:=λ ζ=>Tree c) .fail (λ r=>match r with | .ok a b=>f a b | .ex e b=> .fail) (λ g i b ζ h=> .call g i b h) t
def RK{i j}{C}{f}{r:R j}(t:Tree i)(h:Sem C (kT t f) r):∃a σ,Sem C t (.ok a σ)/\Sem C (f a σ) r:=by
 induction t with
 | fail=>exact nomatch show Sem C .fail r from h
 | ret q=>cases q with
  | ok a σ=>exact {a,σ,.rt _,h}
  | ex e σ=>exact nomatch show Sem C .fail r from h
 | call g d σ k b=>
  cases show Sem C (.call g d σ λ q=>kT _ f) r from h with
  | cl c h=>exact (b _ h).elim λ a z=>z.elim λ σ z=>{a,σ,.cl c z.1,z.2}
def pH{d i}{C}{f}{a:d}{σ}{r:R i}{t}(h:Sem C t (.ok a σ))(g:Sem C (f a σ) r):Sem C (kT t f) r:=by
 generalize e:R.ok a σ=q at h
 induction h with
 | rt j=>subst e;exact g
 | cl c _ b=>exact .cl c (b e)
noncomputable def aF{a b:Type}(o:Option a)(f:a->Tree b):Tree b:=match o with
 | some v=>f v
 | none=> .fail
def oy{a b}{C}{o:Option a}{f}{r:R b}(h:Sem C (aF o f) r):∃v,o=some v/\Sem C (f v) r:=by
 cases o with
 | none=>exact nomatch show Sem C .fail r from h
 | some v=>exact ⟨v,rfl,h⟩
def aX{a b}{C}{o}{f}{r:R b}{v:a}(e:o=some v)(h:Sem C (f v) r):Sem C (aF o f) r:=by subst e;exact h
noncomputable def gT{a:Type}(c:Prop)[Decidable c](x:Tree a):Tree a:=if c then x else .fail
def L_{a}{C}{c}[d:Decidable c]{x}{r:R a}(h:Sem C (gT c x) r):c/\Sem C x r:=by
 by_cases q:c
 ·rw [gT,if_pos q] at h;exact ⟨q,h⟩
 ·rw [gT,if_neg q] at h;exact nomatch h
def gj{a}{C}{c}[d:Decidable c]{x}{r:R a}(q:c)(h:Sem C x r):Sem C (gT c x) r:=by rw [gT,if_pos q];exact h
noncomputable def iY{a:Type}(o:Option a)(σ:St):Tree a:=match o with
 | some v=> .ret (.ok v σ)
 | none=> .fail
def Fl{a}{C}{o}{σ}{r:R a}(h:Sem C (iY o σ) r):∃v,o=some v/\r= .ok v σ:=by
 cases o with
 | none=>exact nomatch show Sem C .fail r from h
 | some v=>exact {v,rfl,Sem.d5 h}
def tB{c:Type}(v:V)(a b:Tree c):Tree c:=aF v.b? λ t=>cond t a b
noncomputable def je(fe:En->St->Tree V)(ft:En->St->Tree Bool)(t:Tg):List V->En->St->Tree (List V)
 | [],_,a=> .ret (.ok [] a)
 | v::l,c,a=>aF (dR t v c) λ c=>kT (ft c a) λ b a=>cond b
  (kT (fe c a) λ v a=>kT (je fe ft t l c a) λ d a=> .ret (.ok (v::d) a))
  (je fe ft t l c a)
noncomputable abbrev bX:=Tree V
noncomputable abbrev Kn:=En->St->bX
noncomputable def forL(t:Tg)(b:En->St->Kn->Kn->bX)(d:Kn):List V->En->St->bX
 | [],a,c=>d a c
 | v::l,a,c=>aF (dR t v a) λ a=>b a c (λ a c=>forL t b d l a c) d
noncomputable def x9(c:En->St->Tree V)(b:En->St->Kn->Kn->bX)(e:Kn):Nat->En->St->bX
 | 0,_,_=> .fail
 | n+1,d,a=>bT (c d a) λ v a=>tB v (b d a (λ d a=>x9 c b e n d a) e) (e d a)
def t8(t:bX)(k:Str->Int->Int->St->bX):bX:=
 Tree.rec (motive:=λ ζ=>bX) .fail (λ r=>match r with | .ok v a=> .ret (.ok v a) | .ex e a=>aF e.e? λ p=>k p.1 p.2.1 p.2.2 a) (λ g c a ζ b=> .call g c a b) t
noncomputable def bp(f:Addr)(vs:List V)(σ:St):bX:=.call f vs σ .ret
mutual
noncomputable def ev(x:X)(ρ:En)(σ:St):Tree V:=match x with
 | .lit v=> .ret (.ok v σ)
 | .loc i=>iY (ay ρ i) σ
 | .glob a=> .ret (.ok (.fn a) σ)
 | .prim p d=>bT (cw d ρ σ) λ h σ=>iY (prim p σ h) σ
 | .cM c a b=>bT (ev c ρ σ) λ v σ=>tB v (ev a ρ σ) (ev b ρ σ)
 | .ba g d=>xD g d ρ σ
 | .chain p q a b c=>bT (ev a ρ σ) λ s σ=>bT (ev b ρ σ) λ r σ=>aF (pR p s r) λ t=>cond t
  (bT (ev c ρ σ) λ u σ=>iY (hF (pR q r u)) σ) (.ret (.ok (.bool false) σ))
 | .call f d=>bT (cw d ρ σ) λ h σ=>bp f h σ
 | .pF f n x d=>bT (ev x ρ σ) λ v σ=>cond (nE σ v n) (bT (cw d ρ σ) λ h σ=>bp f (v::h) σ) .fail
 | .met p x d=>bT (ev x ρ σ) λ v σ=>cond (qh p σ v) (kT (cw d ρ σ) λ h σ=>iY (kx p σ v h) σ) .fail
 | .tS i d=>aF (ay ρ i) λ v=>aF v.f? λ f=>bT (cw d ρ σ) λ h σ=>bp f h σ
 | .new c f d=>bT (cw d ρ σ) λ h σ=>bT (bp f (.ref σ.length::h) (σ++ [.inst c [] []])) λ v o=>aF v.n? λ ζ=> .ret (.ok (.ref σ.length) o)
 | .ro x=>bT (ev x ρ σ) λ v σ=>aF v.l? λ l=>gT (l.length<=1000000) (.ret (.ok (.ref σ.length) (σ++ [.list l])))
 | .kv k d=>bT (cw d ρ σ) λ h σ=>gT (k.length=h.length/\k.Nodup) (.ret (.ok (.ref σ.length) (σ++ [.dict k h])))
 | .tI=> .ret (.ok (.ref σ.length) (σ++ [.known none]))
 | .qf x y=>bT (ev x ρ σ) λ a σ=>bT (ev y ρ σ) λ v σ=>aF a.t? λ l=>aF (strsOf l) λ k=> .ret (.ok (.ref σ.length) (σ++ [.known (some (k,v))]))
 | .uB x=>bT (ev x ρ σ) λ v σ=>aF v.r? λ i=>aF (headOf σ i) λ p=>gT (p.2.length<=999999) (.ret (.ok p.1 (σ.set i (.list p.2))))
 | .mY i=>aF (ay ρ i) λ v=>aF v.l? λ l=>gT (l.length<=1000001) (.ret (.ok (.int l.length) σ))
 | .iR i=>aF (ay ρ i) λ v=>aF v.l? λ l=>gT (l.length<=1000001) (.ret (.ok (.tup l) σ))
 | .mu i b=>aF (ay ρ i) λ v=>aF v.l? λ l=> .ret (.ok (.bool (l.isEmpty==b)) σ)
 | .si x i=>bT (ev x ρ σ) λ v σ=>aF (ay ρ i) λ w=>iY (hF (fq [] v w)) σ
 | .comp e t m j=>bT (i3 m ρ σ) λ l σ=>kT (je (λ ρ σ=>ev e ρ σ) (λ ρ σ=>nN j ρ σ) t l (ll (bw t) ρ) σ) λ h σ=> .ret (.ok (.lst h) σ)
 | .stuck=> .fail
noncomputable def cw(d:List X)(ρ:En)(σ:St):Tree (List V):=match d with
 | []=> .ret (.ok [] σ)
 | x::d=>bT (ev x ρ σ) λ v σ=>bT (cw d ρ σ) λ h σ=> .ret (.ok (v::h) σ)
noncomputable def xD(g:Bool)(d:List X)(ρ:En)(σ:St):Tree V:=match d with
 | []=> .fail
 | x::d=>cond d.isEmpty (ev x ρ σ) (bT (ev x ρ σ) λ v σ=>aF v.b? λ b=>cond (b==g) (xD g d ρ σ) (.ret (.ok (.bool b) σ)))
noncomputable def i3(m:It)(ρ:En)(σ:St):Tree (List V):=match m with
 | .val x=>bT (ev x ρ σ) λ v σ=>aF (itemsOf v) λ l=>gT (l.length<=1000000) (.ret (.ok l σ))
 | .kr x=>bT (ev x ρ σ) λ v σ=>aF v.i? λ n=>gT (idx n/\n<1000000) (.ret (.ok (cp 0 n.toNat) σ))
 | .lS x y=>bT (ev x ρ σ) λ v σ=>bT (ev y ρ σ) λ w σ=>aF v.i? λ a=>aF w.i? λ b=>gT (idx a/\idx b/\b-a<=1000000) (.ret (.ok (cp a (b-a).toNat) σ))
 | .nP x=>bT (ev x ρ σ) λ v σ=>aF (vd v) λ l=>gT (l.length<=1000000) (.ret (.ok (e8 0 l) σ))
noncomputable def nN(j:List X)(ρ:En)(σ:St):Tree Bool:=match j with
 | []=> .ret (.ok true σ)
 | c::j=>bT (ev c ρ σ) λ v σ=>tB v (nN j ρ σ) (.ret (.ok false σ))
end
section
variable(n:Nat)
mutual
noncomputable def ex(y:Y)(ρ:En)(σ:St)(d e:Kn):bX:=match y with
 | .expr x=>bT (ev x ρ σ) λ ζ σ=>d ρ σ
 | .asg t x=>bT (ev x ρ σ) λ v σ=>aF (dR t v ρ) λ ρ=>d ρ σ
 | .q0 x s v=>bT (ev v ρ σ) λ v σ=>bT (ev x ρ σ) λ w σ=>aF (tx σ w s v) λ σ=>d ρ σ
 | .c8 x k v=>bT (ev v ρ σ) λ v σ=>bT (ev x ρ σ) λ w σ=>bT (ev k ρ σ) λ k σ=>aF (setItem σ w k v) λ σ=>d ρ σ
 | .vO p i x=>aF (ay ρ i) λ a=>bT (ev x ρ σ) λ b σ=>aF (iV p a b) λ v=>d (ρ.set i (some v)) σ
 | .rQ p x m v=>bT (ev x ρ σ) λ w σ=>aF (fw σ m w) λ a=>bT (ev v ρ σ) λ b σ=>aF (oe (mG p σ w m b) (ae (iV p a b) λ r=>hO σ w m r)) λ σ=>d ρ σ
 | .eL p x k v=>bT (ev x ρ σ) λ w σ=>bT (ev k ρ σ) λ k σ=>aF (itemOf σ w k) λ a=>bT (ev v ρ σ) λ b σ=>aF (oe (ae k.s? λ m=>mG p σ w m b) (ae (iV p a b) λ r=>setItem σ w k r)) λ σ=>d ρ σ
 | .ifs c a b=>bT (ev c ρ σ) λ v σ=>tB v (ao a ρ σ d e) (ao b ρ σ d e)
 | .gp c b=>x9 (λ ρ σ=>ev c ρ σ) (λ ρ σ d e=>ao b ρ σ d e) d n ρ σ
 | .e3 t h b=>bT (i3 h ρ σ) λ l σ=>forL t (λ ρ σ d e=>ao b ρ σ d e) d l ρ σ
 | .brk=>e ρ σ
 | .ret x=>ev x ρ σ
 | .cB x=>bT (ev x ρ σ) λ v σ=>aF v.e? λ p=> .ret (.ex (.exc p.1 p.2.1 p.2.2) σ)
 | .yd x i f=>t8 (ev x ρ σ) λ w a b σ=>gT (i<ρ.length) (.ret (.ok (.tup [.str f,.str w,.int a,.int b]) σ))
 | .hX i z=>bT (cw z ρ σ) λ u σ=>d (ρ.set i (some (.lst u))) σ
 | .lU i j _ x=>bT (ev x ρ σ) λ v σ=>d ((ρ.set i (some (.lst []))).set j (some v)) σ
 | .qc i=>d (ρ.set i (some (.bH [] []))) σ
 | .oset i k v=>aF (ay ρ i) λ o=>aF o.d? λ q=>bT (ev v ρ σ) λ v σ=>bT (ev k ρ σ) λ k σ=>aF k.s? λ k=>gT (q.1.length<=1000) (d (ρ.set i (some (.bH (bB q.1 q.2 k v).1 (bB q.1 q.2 k v).2))) σ)
 | .dy i x=>aF (ay ρ i) λ o=>aF o.l? λ l=>bT (ev x ρ σ) λ v σ=>gT (l.length<=1000000) (d (ρ.set i (some (.lst (l++ [v])))) σ)
 | .pz i x=>aF (ay ρ i) λ o=>aF o.l? λ l=>bT (ev x ρ σ) λ v σ=>aF v.t? λ w=>gT (l.length+w.length<=1000000) (d (ρ.set i (some (.lst (l++w)))) σ)
 | .pC i x=>aF (ay ρ i) λ o=>aF o.l? λ l=>bT (ev x ρ σ) λ v σ=>aF v.l? λ w=>gT (l.length+w.length<=1000000) (d (ρ.set i (some (.lst (l++w)))) σ)
 | .lT i=>iY (ay ρ i) σ
 | .j3 i x=>aF (ay ρ i) λ o=>aF o.l? λ l=>bT (ev x ρ σ) λ v σ=>aF v.l? λ w=>gT (l.length+w.length<=1000000) (.ret (.ok (.lst (l++w)) σ))
noncomputable def ao(g:List Y)(ρ:En)(σ:St)(d e:Kn):bX:=match g with
 | []=>d ρ σ
 | y::g=>ex y ρ σ (λ ρ σ=>ao g ρ σ d e) e
end
end
noncomputable def aM:Kn:=λ ζ a=> .ret (.ok .none a)
noncomputable def aP:Kn:=λ ζ ζ=> .fail
def mV{a:Type}(O:Addr->List V->St->Option (R V))(t:Tree a):Option (R a):=
 Tree.rec (motive:=λ ζ=>Option (R a)) none (λ r=>some r) (λ f c d ζ b=>ae (O f c d) λ q=>b q) t
def z0{d}{C}{O}(c:∀f vs σ r,O f vs σ=some r->C f vs σ r){r:R d}(t)(h:mV O t=some r):Sem C t r:=by
 induction t with
 | fail=>contradiction
 | ret q=>cases h;exact .rt _
 | call f vs σ k b=>
  exact (ja h).elim λ q a=> .cl (c _ _ _ _ a.1) (b q a.2)
noncomputable def bL(c:Addr->List V->St->Option (R V))(T:Addr->Option Fn)(n:Nat):Nat->Addr->List V->St->Option (R V)
 | 0,f,a,b=>c f a b
 | d+1,f,a,b=>oe (c f a b) (ae (T f) λ e=>ae (args e a) λ g=>mV (bL c T n d) (ao n e.body g b aM aP))
end
structure P6(d:Nat)(f:Addr)(vs:List V)(σ:St)(r:R V):Prop where
 c:iN d f vs σ r
 k:(∀o∈σ,o.val)->keepIn Kf (.ref f)=true
section
variable{G:Gx}{C:Sx}{ρ:En}{σ:St}{r:R V}{rs:R (List V)}{x:X}{xs:List X}{E:Expr}{es:List Expr}
def qZ{a}(b:wB x=true)(h:Sem a (ev x ρ σ) r):∃v,r= .ok v σ:=by
 cases x
 case lit=>exact {_,Sem.d5 h}
 case loc=>exact (Fl h).elim λ v z=>⟨v,z.2⟩
 all_goals exact c4 b
def qI{c}{f}(g:∀{x} {σ} {r},f x=true->Sem c (ev x ρ σ) r->∃v,r= .ok v σ){xs}:∀{rs},xs.all f=true->Sem c (cw xs ρ σ) rs->∃vs,rs= .ok vs σ:=by
 induction xs with
 | nil=>exact λ ζ h=>{[],Sem.d5 h}
 | cons x xs i=>
  intro rs d h;refine (ml _ h).elim λ j a=> ?_;obtain ⟨v,e⟩:=g (an d).1 a.1;subst e;refine (ml _ a.2).elim λ k b=> ?_;obtain ⟨vs,e⟩:=i (an d).2 b.1;subst e;exact {_,Sem.d5 b.2}
set_option tactic.hygienic true in
def ot{d}(c:qw x=true)(h:Sem d (ev x ρ σ) r):∃v,r= .ok v σ:=by
 cases x
 case loc i=>exact qZ rfl h
 case lit v=>exact qZ rfl h
 case prim p xs=>
  obtain ⟨rs,f,g⟩:=ml _ h;refine (qI (λ a b=>qZ a b) (by cases p<;>first | exact c | exact c4 c) f).elim λ j e=> ?_;subst e;exact (Fl g).elim λ v z=>⟨v,z.2⟩
 all_goals exact c4 c
def IY{cl}{f}{vs}(h:Sem cl (bp f vs σ) r):cl f vs σ r:=by
 cases h with
 | cl c h=>exact Sem.d5 h▸c
def Q9{e}{d}{v}{a b}{r:R e}{Q:Prop}(h:Sem d (tB v a b) r)(f:v= .bool true->Sem d a r->Q)(g:v= .bool false->Sem d b r->Q):Q:=by
 refine (oy h).elim λ t c=> ?_;cases t with
 | true=>exact f (V.o_ c.1) c.2
 | false=>exact g (V.o_ c.1) c.2
end
section
variable{G:Gx}{C:Sx}{ρ:En}{σ:St}{r:R V}{rs:R (List V)}{x:X}{xs:List X}{E:Expr}{es:List Expr}
end
noncomputable def isLit(x:X):Bool:=match x with
 | .lit _=>true
 | _=>false
noncomputable def OX(x:X):Bool:=match x with
 | .mu _ _=>true
 | _=>false
def flat(x:X):Bool:=match x with
 | .lit _=>true
 | .cM c a b=>OX c && (isLit a && isLit b)
 | _=>false
def Gk(S:Cs)(t:Tg)(x:X)(T v:Expr):Bool:=noStar T && (ib S.Γ t T && ((c5 T).all (cA S.κ true) && (freeOf S.ow (bw t) && (!jL v && (gH S.κ [T] v==some none && ck S x v)))))
def MM(S:Cs)(t:Tg)(x:X)(T v:Expr):Bool:=Jy t λ b=>fU T λ a f g=>fU v λ e c d=>jf S.Γ b a && ((gu a).all (cA S.κ true) && (freeOf S.ow (fE b) &&
 (gH S.κ [.Tuple a f g] (.Tuple e c d)==some (some ((dJ a b).map (·.1))) && (B9 a b && (decide (((dJ a b).map (·.2)).Nodup) && ck S x (.Tuple e c d))))))
def MN(S:Cs)(t:Tg)(x:X)(T v:Expr):Bool:=CR t λ i=>EM x λ e h l j=>dZ T λ n m=>ya v λ c k f g=>Ew k λ b a d=>EZ S.κ n m g f && (S.Γ.lookup n==some i && (S.ow !=some i && (vF S.κ S.Γ S.ow h b a f && ck S (.comp e h l j) (.ListComp c [{b,a,d,0}] f g))))
def Gq(h:ExceptHandler)(a:Str->Str->List Stmt->Bool):Bool:=match h with
 | .ExceptHandler t n b _=>uS t λ t=>uS n λ n=>dZ t λ c ζ=>a c n b
def I0{h}{d}(C:ExceptHandler->Prop)(q:Gq h d=true)(g:∀c n b a p,d c n b=true->C (.ExceptHandler (some (.Name c a)) (some n) b p)):C h:=by
 cases h with
 | ExceptHandler t n b p=>exact e9 (λ t=>C (.ExceptHandler t n b p)) q λ t q=>e9 (λ n=>C (.ExceptHandler _ n b p)) q λ n q=>cz (λ t=>C (.ExceptHandler _ _ b p)) q λ c a q=>g c n b a p q
def Et(S:Cs)(i:Nat)(g:Str)(e:Expr)(h:Expr->Bool):Bool:=tu e λ f args d c=>i4 f λ o m b=>d.isEmpty && (m==g && (bo S.Γ i o && (S.ow==some i && ((b.endLine==c.line) && u1 args λ a=>noStar a && h a))))
def Cn{S}{i}{j}{e}{k}(C:Expr->Prop)(h:Et S i j e k=true)(g:∀o b a pos,bo S.Γ i o=true->S.ow=some i->(b.endLine==pos.line)=true->noStar a=true->k a=true->C (.Call (.Attribute o j b) [a] [] pos)):C e:=
 qN C h λ f args d pos h=>fy (λ f=>C (.Call f _ d pos)) h λ o m b h=>b4 (λ d=>C (.Call _ _ d pos)) (an h).1 (by
  have h:=an (an h).2;have e:=bq h.1;cases e;have c:=an h.2
  exact c6 (λ args=>C (.Call _ args [] pos)) (an (an c.2).2).2 λ a h=>g o _ a pos c.1 (bq (an c.2).1) (an (an c.2).2).1 (an h).1 (an h).2)
section
variable{G:Gx}{x v k c:X}{xs:List X}{i j:Nat}{p:Operator}
set_option tactic.hygienic true in
def Ir{g}{ρ}{σ}{r}(m:flat x=true)(h:Sem g (ev x ρ σ) r):∃v,r= .ok v σ:=by
 cases x
 case lit=>exact {_,Sem.d5 h}
 case cM c a b=>
  have z:=an m;obtain ⟨s,n,o⟩:=ml _ h
  have e:∃v,s= .ok v σ:=by
   cases c
   case mu i b=>
    exact (oy n).elim λ v d=>(oy d.2).elim λ l f=>{_,Sem.d5 f.2}
   all_goals exact c4 z.1
  obtain ⟨v,e⟩:=e;subst e
  have lit:∀{x},isLit x=true->Sem g (ev x ρ σ) r->∃v,r= .ok v σ:=λ {x} q h=>by
   cases x
   case lit=>exact {_,Sem.d5 h}
   all_goals exact c4 q
  exact Q9 o (λ ζ h=>lit (an z.2).1 h) λ ζ h=>lit (an z.2).2 h
 all_goals exact c4 m
def zw{σ σ'}{w a r}{z}{n}(t:vR σ w r z σ')(s:∀i o,w.r? =some i->σ[i]? =some o->∃f d b,o= .zip z f n d b):(fw σ "at" w=some a->z=true/\a= .int n)/\(itemOf σ w (.str "at")=some a->z=false/\a= .int n):=by
 cases t with
 | mk i _ f B d b A l m g u y=>
  obtain ⟨_,_,_,e⟩:=s i _ m g;cases e;have q:=V.Fb m;subst q
  rw [(by
   show oe (ae σ[i]? _) none=_
   rw [g];rfl:fw σ _ _=oe (ae (O.zip z _ n _ _).qx _) _),(by
   show oe (ae (ae _ _) _) none=_
   rw [g];rfl:itemOf σ _ _=oe (ae (O.zip z _ n d b).tN _) _)]
  cases z with
  | true=>exact {λ h=>{rfl,(ar h).symm},λ h=>aQ h}
  | false=>exact {λ h=>aQ h,λ h=>{rfl,(ar h).symm}}
end
section
variable{G:Gx}{x v k c:X}{xs:List X}{i j:Nat}{a b ys:List Y}
def PE{l}{ρ}{xs}:∀{σ} {d},Sem l (cw xs ρ σ) d->∀vs σ',d= .ok vs σ'->vs.length=xs.length:=by
 induction xs with
 | nil=>exact λ h vs σ' q=>by subst q;cases Sem.d5 h;rfl
 | cons x xs p=>
  intro σ d h vs σ' q;subst q;obtain ⟨r,t,m⟩:=ml _ h;cases r with
  | ex e f=>contradiction
  | ok v f=>
   obtain ⟨s,n,o⟩:=ml _ m;cases s with
   | ex e g=>contradiction
   | ok u g=>cases Sem.d5 o;exact congrArg _ (p n _ _ rfl)
def Ju{cl}{k}{r}(t)(h:Sem cl (t8 t k) r):∃r1,Sem cl t r1/\(match r1 with | .ok v σ=>r= .ok v σ | .ex e σ=>Sem cl (aF e.e? λ p=>k p.1 p.2.1 p.2.2 σ) r):=by
 induction t with
 | fail=>exact nomatch h
 | ret q=>cases q with
  | ok v σ=>exact {_,.rt _,Sem.d5 h}
  | ex e σ=>exact {_,.rt _,h}
 | call g l σ f d=>
  cases show Sem cl (.call g l σ λ q=>t8 _ k) r from h with
  | cl c h=>exact (d _ h).elim λ r1 z=>{r1,.cl c z.1,z.2}
end
def nr(v:V):Bool:=V.rec (motive_1:=λ ζ=>Bool) (motive_2:=λ ζ=>Bool)
 true (λ ζ=>true) (λ ζ=>true) (λ ζ=>true) (λ ζ b=>b) (λ ζ b=>b) (λ ζ ζ b=>b) true (λ ζ ζ b=>b) (λ ζ=>false) (λ ζ=>true) (λ ζ ζ ζ=>true) true (λ ζ ζ a b=>a && b) v
def K9(v:List V):Bool:=V.rec_1 (motive_1:=λ ζ=>Bool) (motive_2:=λ ζ=>Bool)
 true (λ ζ=>true) (λ ζ=>true) (λ ζ=>true) (λ ζ b=>b) (λ ζ b=>b) (λ ζ ζ b=>b) true (λ ζ ζ b=>b) (λ ζ=>false) (λ ζ=>true) (λ ζ ζ ζ=>true) true (λ ζ ζ a b=>a && b) v
def cb(f:Nat->Nat)(v:V):V:=match v.r? with
 | some i=> .ref (f i)
 | none=>v
def tR(n:Nat)(v:V):Bool:=match v.r? with
 | some i=>Nat.blt i n
 | none=>nr v
def norm(o:O):O:=match o with
 | .zip b a n _ c=>cond b (.inst 322 zN (.lst a:: .int n::c)) (.dict zD [.lst a,.int n])
 | o=>o
def yw(f:Nat->Nat)(o:O):O:=match o with
 | .inst c e a=> .inst c e (a.map (cb f))
 | .dict d a=> .dict d (a.map (cb f))
 | .list a=> .list (a.map (cb f))
 | .known o=> .known (o.map λ p=>(p.1,cb f p.2))
 | .zip b t n r m=> .zip b t n r m
def oR(n:Nat)(o:O):Bool:=match o with
 | .inst _ _ a=>a.all (tR n)
 | .dict _ a=>a.all (tR n)
 | .list a=>a.all (tR n)
 | .known o=>o.all λ p=>tR n p.2
 | .zip _ _ _ _ _=>false
structure ND(fi:Nat->Nat)(n:Nat)(σs σb:St):Prop where
 ob:∀i,i<n->∃o ob,σs[i]? =some o/\σb[fi i]? =some ob/\o.val/\ob.val/\oR n (norm o)=true/\norm ob=yw fi (norm o)
structure Res(fi:Nat->Nat)(n:Nat)(σs σb σb':St):Prop where
 len:σb'.length=σb.length
 ob:∀i,i<n->∃o ob,σs[i]? =some o/\σb'[fi i]? =some ob/\ob.val/\oR n (norm o)=true/\norm ob=yw fi (norm o)
 bx:∀j,(∀i,i<n->fi i≠j)->σb'[j]? =σb[j]?
inductive x5(fi:Nat->Nat)(n:Nat)(σb:St):R V->R V->Prop
 | ok (v:V) (σ' σb':St) (hv:tR n v=true) (h:Res fi n σ' σb σb'):x5 fi n σb (.ok v σ') (.ok (cb fi v) σb')
 | ex (w:Str) (a b:Int) (σ' σb':St) (h:Res fi n σ' σb σb'):x5 fi n σb (.ex (.exc w a b) σ') (.ex (.exc w a b) σb')
section
def T0:Addr->Option Fn:=λ a=>List.lookup a eE
def bd(n:Nat)(f:Addr)(vs:List V)(σ:St):bX:=aF (T0 f) λ a=>aF (args a vs) λ b=>ao n a.body b σ aM aP
structure Cl(C:Nat->Cm):Prop where
 mono:∀{d d' f vs σ r},d<=d'->C d f vs σ r->C d' f vs σ r
 val:∀{d f vs σ r},((∀o∈σ,o.val)->C d f vs σ r)->C d f vs σ r
 go:∀{d f vs σ r} (n:Nat),Sem (C d) (bd n f vs σ) r->C (d+1) f vs σ r
 frame:∀{d f vs σs r} {fi:Nat->Nat} {n:Nat} {σb:St} {rb:R V},C d f vs σs r->σs.length=n->(∀i,i<n->fi i<σb.length)->(∀i j,i<n->j<n->i≠j->fi i≠fi j)->ND fi n σs σb->vs.all (tR n)=true->x5 fi n σb r rb->C d f (vs.map (cb fi)) σb rb
def C:Nat->Cm:=λ d f a b r=>∀K,Cl K->K d f a b r
def hC:Cl C where
 mono:=λ f h K k=>k.mono f (h K k)
 val:=λ h K k=>k.val λ v=>h v K k
 go:=λ n s K k=>k.go n (s.mono λ ζ ζ ζ ζ c=>c K k)
 frame:=λ h a b c d e g K k=>k.frame (h K k) a b c d e g
section
variable{C:Cm}{n:Nat}{ρ ρ':En}{σ σ':St}{kn kb:Kn}{r:R V}{ys:List Y}{x:X}{v:V}
def aV{t:Tg}(h:Sem C (ev x ρ σ) (.ok v σ'))(e:dR t v ρ=some ρ')(k:Sem C (ao n ys ρ' σ' kn kb) r):Sem C (ao n (.asg t x::ys) ρ σ kn kb) r:=aC h (aX e k)
variable{c:X}{a b:List Y}
def dn{t:Bool}(h:Sem C (ev c ρ σ) (.ok (.bool t) σ'))(k:Sem C (cond t (ao n a ρ σ' (λ ρ σ=>ao n ys ρ σ kn kb) kb) (ao n b ρ σ' (λ ρ σ=>ao n ys ρ σ kn kb) kb)) r):Sem C (ao n (.ifs c a b::ys) ρ σ kn kb) r:=aC h k
def ak(t:Bool)(h:Sem C (ev c ρ σ) (.ok (.bool t) σ))(k:Sem C (cond t (ao n a ρ σ (λ ρ σ=>ao n ys ρ σ kn kb) kb) (ao n b ρ σ (λ ρ σ=>ao n ys ρ σ kn kb) kb)) r):Sem C (ao n (.ifs c a b::ys) ρ σ kn kb) r:=aC h k
def fV(h:Sem C (ev x ρ σ) (.ok v σ'))(k:Sem C (ao n ys ρ σ' kn kb) r):Sem C (ao n (.expr x::ys) ρ σ kn kb) r:=aC h k
variable{y:X}{xs:List X}
def bQ{r:R V}(h:Sem C (ev x ρ σ) (.ok (.bool true) σ))(k:Sem C (ev (.ba true (y::xs)) ρ σ) r):Sem C (ev (.ba true (x::y::xs)) ρ σ) r:=aC h k
def d_(h:Sem C (ev x ρ σ) (.ok (.bool false) σ)):Sem C (ev (.ba true (x::y::xs)) ρ σ) (.ok (.bool false) σ):=aC h .rr
def d9(h:Sem C (ev c ρ σ) (.ok (.bool false) σ'))(k:Sem C (ao n ys ρ σ' kn kb) r):Sem C (ao n (.ifs c a []::ys) ρ σ kn kb) r:=aC h k
def fG(h:Sem C (ev x ρ σ) r):Sem C (ao n (.ret x::ys) ρ σ kn kb) r:=h
def p8{p:Operator}{d e:X}{w k a b:V}(f:Sem C (ev x ρ σ) (.ok w σ))(g:Sem C (ev d ρ σ) (.ok k σ))(i:itemOf σ w k=some a)(j:Sem C (ev e ρ σ) (.ok b σ))(l:oe (ae k.s? λ m=>mG p σ w m b) (ae (iV p a b) λ r=>setItem σ w k r)=some σ')(h:Sem C (ao n ys ρ σ' kn kb) r):Sem C (ao n (.eL p x d e::ys) ρ σ kn kb) r:=aC f (aC g (aX i (aC j (aX l h))))
variable{vs:List V}
def ah{p:Pr}(h:Sem C (cw xs ρ σ) (.ok vs σ'))(e:prim p σ' vs=some v):Sem C (ev (.prim p xs) ρ σ) (.ok v σ'):=aC h (by rw [AT,e];exact .rt _)
def ai(h:Sem C (ev x ρ σ) (.ok v σ))(k:Sem C (cw xs ρ σ) (.ok vs σ)):Sem C (cw (x::xs) ρ σ) (.ok (v::vs) σ):=aC h (aC k .rr)
end
variable{l:List V}
def fb(h:l.length<=cY):DV (.lst l)=some (.int l.length):=by
 show oe (gd _ _) _=_;rw [gd,if_pos h];rfl
variable{σ:St}
def D9{a b:Int}(h:a<b):prim (.cmp .GtE) σ [.int a,.int b]=some (.bool false):=congrArg (λ x=>some (V.bool x)) (qp (Int.not_le.mpr h))
def ge_int{a b:Int}:prim (.cmp .GtE) σ [.int a,.int b]=some (.bool (decide (b<=a))):=rfl
variable{k:Nat}{v:V}
def ve(e:l[k]? =some v):ma l (k:Int)=some v:=by
 simp [ma,seqIndex?,(di.mp e).1,(by lia:¬(k:Int)<0)];exact (di.mp e).2
def lm{n:Nat}(h:n<=100000):n<=1000000:=ag h (eN rfl)
def pb{a b d:Nat}(h:Nat.ble a b=true):d+a<=d+b:=ee (eN h) d
def jD{c d:Type}{f:c->d}{l:List c}{k a b:Nat}(h:l.length+k<=a)(e:Nat.ble a b=true):(l.map f).length<=b:=ag (b1 (cJ ..)) (ag (u7 h) (eN e))
def mj{j n a b c m:Nat}(h:j<=n)(e:Nat.ble (a+b*n+c) m=true):a+b*j+c<=m:=ag (o5 (ee (Bq b h) a) c) (eN e)
def lb{n:Nat}(h:n<=100000):n<=cY:=ag h (eN rfl)
def ky{n:Nat}(h:n<=100000):idx (n:Int)=true:=nq.mpr {jI (Int.lt_of_lt_of_le ⋯ (xr n)),jI (sv.mpr (fZ h ⋯))}
def Bz{i:Int}:prim .item σ [.lst l,.int i]=oe (gd (idx i=true) (ma l i)) none:=rfl
def dj(a:l.length<=100000)(e:l[k]? =some v):prim .item σ [.lst l,.int k]=some v:=by
 have h:=(di.mp e).1;rw [Bz,gd,if_pos (ky (ag (iC h) a)),ve e];rfl
section
variable{d:Nat}
def Cl.b6{f:Nat}{vs:List V}{σ:St}{r:R V}(n:Nat)(b:Fn)(ρ:En)(e:T0 f=some b)(a:args b vs=some ρ)(h:Sem (C d) (ao n b.body ρ σ aM aP) r):C (d+1) f vs σ r:=hC.go n (aX e (aX a h))
def Cl.pE{a:Type}{e:Nat}(b:d<=e){t:Tree a}{r:R a}(h:Sem (C d) t r):Sem (C e) t r:=h.mono λ ζ ζ ζ ζ c=>hC.mono b c
variable{n:Nat}
def Cl.deep{b:Addr->List V->St->Option (R V)}{k:Nat}(c:∀d f vs σ r,b f vs σ=some r->C (d+k) f vs σ r):∀d f vs σ r,bL b T0 n d f vs σ=some r->C (d+k) f vs σ r:=by
 intro d
 induction d with
 | zero=>exact λ f vs σ r h=>c 0 f vs σ r h
 | succ d g=>
  refine λ f vs σ r h=>aO h (λ h=>c _ f vs σ r h) λ h=> ?_;rw [uZ];exact hC.go n ((ja h).elim λ i a=>(ja a.2).elim λ j e=>aX a.1 (aX e.1 (z0 g _ e.2)))
def Ci{a c b:List V}{g:List O}{t:V}:C (d+1) 263 [.ref 0] (.zip true a n (t::c) b::g) (.ok t (.zip true a n (t::c) b::g)):=hC.val λ j=>by
 refine (j _ (.head _)).elim λ h e=> ?_;have f:a[n]? =some t:=by rw [←List.head?_drop,h];rfl
 have i:=(di.mp f).1;exact Cl.b6 0 _ [some _,some _,none] rfl rfl (aV .rr rfl (d9 (ah (ai .rr (ai (ah .rr (fb (lb e))) .rr)) (D9 (sv.mpr i))) (fG (ah .rr (dj e f)))))
end
end
section
variable{P:Params}{ν ν' H:List Addr}{h:Heap}{f:Nat->Nat}{n:Nat}
theorem Rep.nr(v):nr v=true->∀m,Rep KA P ν H h v m->Rep KA P ν' H h v m:=
 have g:∀{d} {T} {m:Value},(∀e,aj KA P ν H h d e->aj KA P ν' H h d e)->(∃a b,m= .ref a/\a∉H/\SeqAt h a T b/\aj KA P ν H h d b)->∃a b,m= .ref a/\a∉H/\SeqAt h a T b/\aj KA P ν' H h d b:=λ i r=>
  r.elim λ a r=>r.elim λ l r=>{a,l,r.1,r.2.1,r.2.2.1,i l r.2.2.2}
 V.rec (motive_2:=λ d=>K9 d=true->∀e,aj KA P ν H h d e->aj KA P ν' H h d e)
  (λ ζ ζ r=>r) (λ ζ ζ ζ r=>r) (λ ζ ζ ζ r=>r) (λ ζ ζ ζ r=>r) (λ ζ i c ζ=>g (i c)) (λ ζ i c ζ=>g (i c))
  (λ ζ ζ i c ζ r=>r.elim λ a r=>r.elim λ l r=>{a,l,r.1,r.2.1,r.2.2.1,i c l r.2.2.2}) (λ ζ ζ r=>r)
  (λ ζ ζ i c ζ r=>r.elim λ a r=>r.elim λ k r=>r.elim λ m r=>r.elim λ l r=>{a,k,m,l,r.1,r.2.1,r.2.2.1,r.2.2.2.1,r.2.2.2.2.1,r.2.2.2.2.2.1,i c m r.2.2.2.2.2.2})
  (λ ζ c=>c4 c) (λ ζ ζ ζ r=>r) (λ ζ ζ ζ ζ ζ r=>r) (λ ζ ζ r=>r) (λ ζ ζ i j c ζ r=>r.elim λ m r=>r.elim λ l r=>{m,l,r.1,i (an c).1 m r.2.1,j (an c).2 l r.2.2}) v
theorem Rep.cb(b:∀i,i<n->ν[i]? =ν'[f i]?)(v)(c:tR n v=true)(m):Rep KA P ν H h v m↔Rep KA P ν' H h (cb f v) m:=by
 unfold tR at c;unfold PM.cb;cases q:v.r? with
 | none=>rw [q] at c;exact {Rep.nr v c m,Rep.nr v c m}
 | some i=>
  have e:=V.Fb q;subst e;have z:=b i (eN c);exact {λ r=>r.elim λ a r=>{a,r.1,z▸r.2},λ r=>r.elim λ a r=>{a,r.1,z▸r.2}}
theorem aj.cb(a:∀i,i<n->ν[i]? =ν'[f i]?)(vs):vs.all (tR n)=true->∀ms,aj KA P ν H h vs ms↔aj KA P ν' H h (vs.map (cb f)) ms:=by
 induction vs with
 | nil=>exact λ ζ ζ=> .rfl
 | cons v vs d=>
  intro c ms;have b:=Rep.cb (P:=P) (H:=H) (h:=h) a v (an c).1;exact {λ r=>r.elim λ m r=>r.elim λ l r=>{m,l,r.1,(b m).mp r.2.1,(d (an c).2 l).mp r.2.2},λ r=>r.elim λ m r=>r.elim λ l r=>{m,l,r.1,(b m).mpr r.2.1,(d (an c).2 l).mpr r.2.2}}
theorem aS.norm{c}{a d}(o):aS P c h a d o↔o.val/\aS P c h a d (norm o):=by
 cases o with
 | zip b _ _ _ _=>cases b<;>exact .rfl
 | inst _ _ _=>exact {λ r=>⟨trivial,r⟩,λ r=>r.2}
 | dict _ _=>exact {λ r=>⟨trivial,r⟩,λ r=>r.2}
 | list _=>exact {λ r=>⟨trivial,r⟩,λ r=>r.2}
 | known _=>exact {λ r=>⟨trivial,r⟩,λ r=>r.2}
def aS.z4{c c'}{a d}(b:∀i,i<n->c.ν[i]? =c'.ν[f i]?)(p:c'.H=c.H)(o)(k:oR n o=true):aS P c h a d o↔aS P c' h a d (yw f o):=by
 obtain ⟨ν,A,t,H⟩:=c;obtain ⟨ν',s,j,u⟩:=c';cases p;cases o with
 | zip _ _ _ _ _=>exact c4 k
 | inst v y e=>
  have z:=aj.cb (P:=P) (H:=H) (h:=h) b e k;exact {λ r=>{r.1,r.2.1,r.2.2.1,r.2.2.2.elim λ l r=>{l,r.1,(z l).mp r.2}},λ r=>{r.1,r.2.1,r.2.2.1,r.2.2.2.elim λ l r=>{l,r.1,(z l).mpr r.2}}}
 | dict x e=>
  have z:=aj.cb (P:=P) (H:=H) (h:=h) b e k;exact {λ r=>{r.1,r.2.elim λ l r=>{l,r.1,(z l).mp r.2}},λ r=>{r.1,r.2.elim λ l r=>{l,r.1,(z l).mpr r.2}}}
 | list e=>
  have z:=aj.cb (P:=P) (H:=H) (h:=h) b e k;exact {λ r=>{r.1,r.2.elim λ l r=>{l,r.1,(z l).mp r.2}},λ r=>{r.1,r.2.elim λ l r=>{l,r.1,(z l).mpr r.2}}}
 | known q=>
  cases q with
  | none=>exact .rfl
  | some q=>
   have z:=Rep.cb (P:=P) (H:=H) (h:=h) b q.2 k;exact {λ r=>{r.1,r.2.elim λ g r=>r.elim λ m r=>r.elim λ l r=>{g,m,l,r.1,r.2.1,r.2.2.1,r.2.2.2.1,(z m).mp r.2.2.2.2}},λ r=>{r.1,r.2.elim λ g r=>r.elim λ m r=>r.elim λ l r=>{g,m,l,r.1,r.2.1,r.2.2.1,r.2.2.2.1,(z m).mpr r.2.2.2.2}}}
end
section
noncomputable def pick(fi:Nat->Nat)(n:Nat)(l:List Addr):List Addr:=(List.range n).map λ i=>(l[fi i]?).getD 0
variable{fi:Nat->Nat}{n:Nat}{l:List Addr}
def pv:(pick fi n l).length=n:=by unfold pick;rw [cJ,FQ]
variable{i:Nat}
def hS(hi:i<n)(h:fi i<l.length):(pick fi n l)[i]? =l[fi i]? :=by
 unfold pick;simp [List.getElem?_range hi];rw [cQ h];rfl
variable{a:Addr}
def fI(e:(pick fi n l)[i]? =some a):i<n:=by
 have:=(di.mp e).1;rw [pv] at this;exact this
def uC(h:∀i,i<n->fi i<l.length)(m:a∈pick fi n l):∃i,i<n/\l[fi i]? =some a:=by
 refine (u6.mp m).elim λ i q=>q.elim λ b e=> ?_;have e:(pick fi n l)[i]? =some a:=by simp_all
 exact {i,fI e,(hS (fI e) (h i (fI e))).symm.trans e}
def aS.Fq{P}{c}{h}{d}{o}(r:aS P c h a d o):(∀x,h.get? a=some x->∀f,x.data≠.fields f)/\∀x,h.get? d=some x->∀f,x.data≠.fields f:=by
 have j:∀{b} {y},h.get? b=some y->(∀f,y.data≠.fields f)->∀x,h.get? b=some x->∀f,x.data≠.fields f:=λ e n x t=>ar (e.symm.trans t)▸n
 have p:∀{s z k},n4 P c h a d s z k->(∀x,h.get? a=some x->∀f,x.data≠.fields f)/\∀x,h.get? d=some x->∀f,x.data≠.fields f:=λ r=>
  {j r.2.2.1 λ ζ=>nofun,r.2.2.2.elim λ l r=>r.1.elim λ u r=>r.elim λ n r=>j r.1 λ ζ=>nofun}
 have g:a=d->(∀x,h.get? a=some x->∀f,x.data≠.fields f)->(∀x,h.get? a=some x->∀f,x.data≠.fields f)/\∀x,h.get? d=some x->∀f,x.data≠.fields f:=λ e h=>{h,e▸h}
 have m:∀{v k},n5 P c h a d v k->(∀x,h.get? a=some x->∀f,x.data≠.fields f)/\∀x,h.get? d=some x->∀f,x.data≠.fields f:=λ r=>
  g r.1 (r.2.elim λ l r=>r.1.elim λ u r=>r.elim λ n r=>j r.1 λ ζ=>nofun)
 cases o with
 | inst _ _ _=>exact p r
 | dict _ _=>exact m r
 | zip b _ _ _ _=>cases b;exact m r.2;exact p r.2
 | list _=>exact g r.1 (r.2.elim λ l r=>r.1.elim λ n r=>j r λ ζ=>nofun)
 | known q=>
  cases q with
  | none=>exact g r.1 (r.2.elim λ n r=>j r.1 λ ζ=>nofun)
  | some q=>exact g r.1 (r.2.elim λ ζ r=>r.elim λ ζ r=>r.elim λ ζ r=>r.2.1.elim λ n r=>j r.1 λ ζ=>nofun)
section
variable{fi:Nat->Nat}{n:Nat}{σs σb σ' σb':St}{c c':Cx}{s s':Shared}
def Cx.small(fi:Nat->Nat)(n:Nat)(c:Cx):Cx:={pick fi n c.ν,pick fi n c.μ,c.Fs,c.H}
noncomputable def Cx.big(c c':Cx):Cx:=⟨c.ν,c.μ,c.Fs,c'.H⟩
def Cx.oh(d:∀i,i<n->fi i<c.ν.length)(b:∀i,i<n->fi i<c.μ.length){a}(m:a∈(c.small fi n).S):(∃i,i<n/\(c.ν[fi i]? =some a∨c.μ[fi i]? =some a))/\a∈c.S:=
 (e6.mp m).elim (λ m=>(uC d m).elim λ i z=>{{i,z.1,.inl z.2},Cx.memν z.2}) λ m=>(uC b m).elim λ i z=>{{i,z.1,.inr z.2},Cx.memμ z.2}
def Gd.small{P}{h}(g:Gd Kf P σb c h)(E:σs.length=n)(v:∀i,i<n->fi i<σb.length)(D:∀i j,i<n->j<n->i≠j->fi i≠fi j)(H:ND fi n σs σb):Gd Kf P σs (c.small fi n) h:=by
 have t:=λ i k=>g.ln▸v i k;have A:=λ i k=>g.lm▸v i k;have sub:∀a∈(c.small fi n).S,a∈c.S:=λ a m=>(Cx.oh t A m).2;have b:∀i a,(c.small fi n).ν[i]? =some a->i<n/\c.ν[fi i]? =some a:=λ i a e=>{fI e,(hS (fI e) (t i (fI e))).symm.trans e};have f:∀i a,(c.small fi n).μ[i]? =some a->i<n/\c.μ[fi i]? =some a:=λ i a e=>{fI e,(hS (fI e) (A i (fI e))).symm.trans e};refine {{λ a m=>g.ok.s a (sub a m),g.ok.f},g.bC,g.gS,g.low,pv.trans E.symm,pv.trans E.symm,λ a m=>g.cF a (sub a m),λ i o a d B u G=> ?_,λ i j x y I B u=> ?_}
 ·have k:=(b i a u).1;refine (H.ob i k).elim λ J q=>q.elim λ F p=> ?_;have e:=ar (p.1.symm.trans B);subst e;have r:=((aS.norm F).mp (g.obj _ F a d p.2.1 (b i a u).2 (f i d G).2)).2;simp [p.2.2.2.2.2] at r;exact (aS.norm J).mpr {p.2.2.1,(aS.z4 (c:=c.small fi n) (λ i k=>hS k (t i k)) rfl _ p.2.2.2.2.1).mpr r}
 ·have C:∀{i x},(c.small fi n).On i x->i<n/\c.On (fi i) x:=λ z=>z.elim (λ z=>{(b _ _ z).1,.inl (b _ _ z).2}) λ z=>{(f _ _ z).1,.inr (f _ _ z).2};exact g.apart _ _ x y (D i j (C B).1 (C u).1 I) (C B).2 (C u).2
def bc.big(g:Gd Kf Pw σb c s.heap)(M:σs.length=n)(y:∀i,i<n->fi i<σb.length)(J:∀i j,i<n->j<n->i≠j->fi i≠fi j)(H:Gd Kf Pw σs (c.small fi n) s.heap)(p:bc Kf Pw (c.small fi n) s σ' c' s')(C:Res fi n σ' σb σb'):
 bc Kf Pw c s σb' (c.big c') s'/\∀i,i<n->c'.ν[i]? =c.ν[fi i]? :=by
 have t:=λ i k=>g.ln▸y i k;have u:=λ i k=>g.lm▸y i k
 have E:=λ i k=>by
  have e:=cQ (t i k);exact e▸p.st.grow i _ ((hS k (t i k)).trans e)
 have G:∀b,b∉c.S->b∉(c.small fi n).S:=λ b k m=>k ((λ a m=>(Cx.oh t u m).2) b m);have ok:(c.big c').ok:={λ a m=>p.st.bz a (g.ok.s a m),λ a m=>p.st.bz a (g.ok.f a m)};refine {{{ok,p.good.bC,p.good.gS,p.good.low,g.ln.trans C.len.symm,g.lm.trans C.len.symm,g.cF,λ j o a d F A B=> ?_,g.apart},{λ b o e k f=>(p.st.keep b o e (G b k) f).elim λ D z=>{D,z.1,z.2.to λ v z=>s9.v ok z.h},λ b o e k f=>p.st.o7 b o e (G b k) f,p.st.there,λ a m=> .inl m,λ a m=> .inl m,p.st.avoid,p.st.bz,λ ζ ζ e=>e,λ ζ ζ e=>e},rfl,p.gens,p.os},E};by_cases q:∃i,i<n/\fi i=j
 ·obtain ⟨i,k,e⟩:=q;subst e;refine (C.ob i k).elim λ D q=>q.elim λ L h=> ?_;have e:=ar (h.2.1.symm.trans F);subst e;exact (aS.norm L).mpr {h.2.2.1,h.2.2.2.2▸(aS.z4 (c':=c.big c') E rfl _ h.2.2.2.1).mp ((aS.norm D).mp (p.good.obj i D a d h.1 ((E i k).trans A) (p.st.nG i d ((hS k (u i k)).trans B)))).2}
 ·have r:=g.obj j o a d ((C.bx j λ i k e=>q ⟨i,k,e⟩)▸F) A B;have ap:∀b,c.On j b->b∉(c.small fi n).S:=λ b I m=>(Cx.oh t u m).1.elim λ i z=>g.apart _ j b b (λ e=>q ⟨i,z.1,e⟩) z.2 I rfl;exact r.tr (c:=c) (c':=c.big c') {λ ζ ζ e=>e,(p.st.tr H.ok).k} (λ x e=>p.st.b3 e (ap a (.inl A)) (g.cF a (Cx.memν A)) (r.Fq.1 x e)) λ x e=>p.st.b3 e (ap d (.inr B)) (g.cF d (Cx.memμ B)) (r.Fq.2 x e)
def iN.frame{d}{f}{vs}{r F}(N:iN d f vs σs r)(C:σs.length=n)(b:∀i,i<n->fi i<σb.length)(t:∀i j,i<n->j<n->i≠j->fi i≠fi j)(P:ND fi n σs σb)(D:vs.all (tR n)=true)(E:x5 fi n σb r F):
 iN d f (vs.map (cb fi)) σb F:=λ A l c s y S I g W T M J=>by
 have B:=g.small C b t P;have u:=λ i k=>g.ln▸b i k;refine N A l _ s y S (I.to (c':=c.small fi n) λ L o m k e=>{m,λ m=>k (Cx.oh u (λ i k=>g.lm▸b i k) m).2,o,e,id}) B ((aj.cb (λ i k=>hS k (u i k)) vs D y).mpr W) T (λ m s' z=> ?_) λ e s' z=> ?_
 ·cases z with
  | mk v σ' c' e p q=>
   cases E with
   | ex _ _ _ _ _ _=>contradiction
   | ok v' _ σb' Q h=>
    cases e;exact M m s' {_,_,_,rfl,(p.big g C b t B h).1,(Rep.cb (p.big g C b t B h).2 v Q m).mp q}
 ·cases z with
  | mk Z U G σ' c' e p a H q x=>
   cases E with
   | ok _ _ _ _ _=>contradiction
   | ex w' a' b' _ σb' h=>
    cases e;exact J _ s' {Z,U,G,_,_,rfl,(p.big g C b t B h).1,a,H,Rep.nr _ rfl _ q,x.mono (c:=c') λ ζ m=>m}
end
end
noncomputable section
noncomputable def PG:List (Str×Str):=("eof","")::("sign","{")::("sign","}")::("end",";")::("end","\n")::("sign","=")::("sign",",")::("sign",".")::("sign",":")::("sign","|")::("word","type")::("word","flags")::("word","timeout")::("word","size")::("word","auto-merge")::("word","elements")::("word","comment")::("word","verdict")::("word","inet_service")::("word","tcp_flag")::("word","ifname")::("word","ipv4_addr")::("word","interval")::("word","constant")::("word","odd")::("word","dynamic")::("word","accept")::("word","return")::("word","jump")::("word","goto")::("word","22")::("word","ftp")::("word","5-9")::("word","0x10")::("word","70000")::("word","9-5")::("word","ssh-25")::("word","syn")::("word","fin")::("word","ack")::("word","3")::("word","300")::("word","1-5")::("word","eth0")::("string","lo")::("word","wan*")::("string","w*")::("string","a")::("word","-")::("string","c")::("word","a/b")::("word","10.0.0.1")::("word","10.0.0.0/8")::("word","10.0.0.1-10.0.0.9")::("word","300.1.1.1")::("word","10.0.0.0/33")::("word","10.0.0.9-10.0.0.1")::("word","2s")::("string","hi")::("word","90")::("word","x")::("word","c")::("string","s")::("word","maybe")::("word","0")::("word","5")::("word","4294967296")::("word","-1")::("word","w*")::("word","s"):: []
noncomputable def PF:Int×Int:=(158178131498404988875553040173361004544,159507359494189904748456847233641349119)
def NR:List (List (Nat×Option (Int×Int))):= [[(30,some (22,22)),(31,some (21,21)),(32,some (5,9)),(33,some (16,16)),(34,none),(36,some (22,25)),(40,some (3,3)),(41,some (300,300)),(42,some (1,5)),(59,some (90,90)),(64,some (0,0)),(65,some (5,5)),(66,none)],
 [(30,some (22,22)),(32,some (5,9)),(33,some (16,16)),(34,none),(37,some (2,2)),(38,some (1,1)),(39,some (16,16)),(40,some (3,3)),(41,none),(42,some (1,5)),(59,some (90,90)),(64,some (0,0)),(65,some (5,5)),(66,none)],
 [(45,some (158684015358739268839267132514936815616,158684035641148872490937556462188101631)),(46,some PF),(53,some (65382338850758675183855762818381905920,65382338850758675331429715408058318848)),(68,some PF)],
 [(51,some (167772161,167772161)),(52,some (167772160,184549375)),(53,some (167772161,167772169))]]
noncomputable def qT:List (Nat×Int):= [(30,22000),(34,70000000),(40,3000),(41,300000),(57,2000),(59,90000),(64,0),(65,5000),(66,4294967296000)]
noncomputable def K7:List (Nat×Int):= [(30,22),(33,16),(34,70000),(40,3),(41,300),(59,90),(64,0),(65,5),(66,4294967296)]
noncomputable def nv:Nat:=70
def gI(k:Nat):Str:=(PG.getD k ("","")).1
def txt(k:Nat):Str:=(PG.getD k ("","")).2
def QK(k:Nat):Int:=Int.ofNat ((txt k).cps.toList.foldl (λ a c=>a*256+c) 0*256^(16-(txt k).cps.toList.length))
structure Tk where
 k:Nat
 row:Int
 col:Int
def aH(k:Nat)(b a:Int):V:=.tup [.str (gI k),.str (txt k),.int b,.int a]
def tv(t:Tk):V:=aH t.k t.row t.col
noncomputable def Wf:List Tk->Prop
 | []=>False
 | t::r=>(t.k=0/\r= [])∨(0<t.k/\t.k<nv/\Wf r)
def QA{P:Nat->Prop}{g}(h:g<4)(a:P 0)(b:P 1)(c:P 2)(d:P 3):P g:=by
 cases g with
 | zero=>exact a
 | succ g=>cases g with
  | zero=>exact b
  | succ g=>cases g with
   | zero=>exact c
   | succ g=>cases g with
    | zero=>exact d
    | succ g=>exact absurd h (Bi (dg 4 g))
def Fw{P:Nat->Prop}{g}(h:g<3)(a:P 0)(b:P 1)(c:P 2):P g:=by
 cases g with
 | zero=>exact a
 | succ g=>cases g with
  | zero=>exact b
  | succ g=>cases g with
   | zero=>exact c
   | succ g=>exact absurd h (Bi (dg _ _))
def Tx{P:List Tk->Prop}{l}(w:Wf l)(h:∀t r,Wf (t::r)->P (t::r)):P l:=by
 cases l with
 | nil=>exact w.elim
 | cons t r=>exact h t r w
def eO(k:Nat):Bool:=gI k== "word"
def b2(k:Nat):Bool:=gI k== "word" || gI k== "string"
def tw(k:Nat):Str:=if k=0 then "end of file" else if k=4 then "newline" else if k=3 then ";" else ap (ap "'" (txt k)) "'"
def b5(k:Nat)(a:Str):Str:=ap (ap (ap "syntax error, unexpected " (tw k)) ", expecting ") a
noncomputable def cG(i:Nat):Str:= ["inet_service","tcp_flag","ifname","ipv4_addr"].getD i ""
noncomputable def F2(i:Nat):Int:= [16,8,128,32].getD i 0
noncomputable def RI(i:Nat):Str:= ["65535","255","","4294967295"].getD i ""
noncomputable def OT(i:Nat):Str:= ["number","mask","name","ip4"].getD i ""
noncomputable def uU(i:Nat):V:= [V.bH ["ftp","ssh"] [.int 21,.int 22],.bH ["fin","syn","ack"] [.int 1,.int 2,.int 16],.bH [] [],.bH [] []].getD i .none
def kP(i:Nat):V:=.tup [.str (cG i),.int (F2 i)]
def kL(i:Nat):V:=.tup [.str (cG i),.int (F2 i),.str (OT i),uU i]
def past(x a:Str):Str:=ap "Value " (ap x (ap " exceeds valid range 0-" (ap a Str.empty)))
def unres(i k:Nat):Str:=ap "Could not resolve '" (ap (txt k) (ap "' as " (ap (cG i) Str.empty)))
def wx(i k:Nat):Option (Option (Int×Int)):=((NR.getD i []).lookup k).or (cond (i==2 && !([50,52,55,56].contains k)) (some (some (QK k,QK k))) none)
def Jl(i k:Nat):Option (Option (Int×Int)):=(wx i k).filter λ x=>x.all λ p=>p.1==p.2
def rF(a:Nat->Nat->Option (Option (Int×Int)))(i k:Nat):Except Str (Int×Int):=
 if b2 k then match a i k with
  | some (some p)=> .ok p
  | some none=> .error (past (txt k) (RI i))
  | none=> .error (unres i k)
 else .error (b5 k "value")
def fH(i k:Nat):Except Str (Int×Int):=rF wx i k
def b8(i k:Nat):Except Str (Int×Int):=rF Jl i k
def f_(k:Nat):Except Str Int:=match qT.lookup k with
 | some n=> .ok n
 | none=> .error (b5 k "time")
def pg(k:Nat):Except Str Int:=match K7.lookup k with
 | some n=>if n>4294967295 then .error (past (txt k) "4294967295") else .ok n
 | none=> .error (b5 k "number")
def p9(k:Nat):Except Str Str:=if b2 k then .ok (txt k) else .error (b5 k "string")
noncomputable def qR(k:Nat):Option Nat:=if 18<=k/\k<22 then some (k-18) else none
def bY(k:Nat):Except Str Nat:=if eO k then match qR k with
 | some i=> .ok i
 | none=> .error (ap (ap "unknown datatype '" (txt k)) "'")
 else .error (b5 k "string")
noncomputable def vk(k:Nat):Option Nat:=if k=23 then some 0 else if k=25 then some 1 else if k=22 then some 2 else if k=12 then some 3 else none
noncomputable def bG(i:Nat):Str:= ["constant","dynamic","interval","timeout"].getD i ""
def dr(k:Nat):Except Str Nat:=match vk k with
 | some i=> .ok i
 | none=> .error "unknown set flag"
def aG(j k:Nat):Except Str Unit:=if k=j then .ok () else .error (b5 k (ap (ap "'" (txt j)) "'"))
set_option genInjectivity true in
inductive Rs(α:Type) where
 | ok (a:α) (n:Nat) (rest:List Tk)
 | bad (w:Str) (n:Nat) (rest:List Tk)
noncomputable def Rs.ctorIdx{a:Type}(v:Rs a):Nat:=v.casesOn (λ ζ ζ ζ=>0) (λ ζ ζ ζ=>1)
noncomputable def a7(a:List Tk):Tk:=a.headD {0,0,0}
noncomputable def Rs.bind{b c:Type}(x:Rs b)(f:b->Nat->List Tk->Rs c):Rs c:=match x with
 | .ok a n r=>f a n r
 | .bad w n r=> .bad w n r
def one{c:Type}(s:Nat->Except Str c)(n:Nat)(b:List Tk):Rs c:=match s (a7 b).k with
 | .ok a=> .ok a (n+1) b.tail
 | .error w=> .bad w n b
def eU:O:=.inst 606 ["fields","types"] [.bH [] [],.bH ["inet_service","tcp_flag","ifname","ipv4_addr"] [.tup [.int 16,.str "big",.str "number",uU 0],.tup [.int 8,.str "big",.str "mask",uU 1],.tup [.int 128,.str "big",.str "name",uU 2],.tup [.int 32,.str "big",.str "ip4",uU 3]]]
structure Px where
 toks:List V
 kn:Option (List Str×V)
 xs:St
def b7(Z:Px)(n:Nat)(a:List V):St:=.zip true Z.toks n a [.ref 1,.ref 2,.str "inet",.str "t"]::eU:: .known Z.kn::Z.xs
noncomputable def bW(Z:Px)(n:Nat)(a:List V):St:=.zip false Z.toks n a []::Z.xs
def RS(Z:Px)(n:Nat)(a:List Tk):St:=b7 Z n (a.map tv)
def BS(Z:Px)(n:Nat)(a:List Tk):St:=bW Z n (a.map tv)
noncomputable def aw{b:Type}(S:Nat->List Tk->St)(f:b->V):Rs b->R V
 | .ok a n r=> .ok (f a) (S n r)
 | .bad w n r=> .ex (.exc w (a7 r).row (a7 r).col) (S n r)
def xY{e:Type}(S:Nat->List V->St)(f:e->V)(k:Nat)(d c:Int)(n:Nat)(b:List V)(s:Except Str e):R V:=match s with
 | .ok a=> .ok (f a) (S (n+1) b)
 | .error w=> .ex (.exc w d c) (S n (aH k d c::b))
def s8{e:Type}(S:Nat->List V->St)(f:e->V)(k:Nat)(d c:Int)(n:Nat)(b:List V)(s:Except Str e):R V:=match s with
 | .ok a=> .ok (f a) (S n (aH k d c::b))
 | .error w=> .ex (.exc w d c) (S n (aH k d c::b))
noncomputable def bg(p:Int×Int):V:=.tup [.int p.1,.int p.2]
noncomputable def eF(p:Str×Str):V:=.tup [.str p.1,.str p.2]
def CA{b}{S}{f:b->V}{s}{n}{t}{r}:aw (λ n r=>S n (r.map tv)) f (one s n (t::r))=xY S f t.k t.row t.col n (r.map tv) (s t.k):=by
 show aw _ f (match s t.k with | .ok a=> .ok a _ r | .error w=> .bad w n _)=_;cases s t.k<;>rfl
structure Zv where
 b:Bool
 toks:List V
 n:Nat
 t:V
 rest:List V
 more:List V
 xs:St
noncomputable def Zv.st(z:Zv):St:=.zip z.b z.toks z.n (z.t::z.rest) z.more::z.xs
noncomputable def Zv.on(z:Zv):St:=.zip z.b z.toks (z.n+1) z.rest z.more::z.xs
def zO(σ:St):Option Zv:=ae σ.head? λ o=>ae o.x8 λ p=>ae p.2.2.2.1.head? λ t=>some ⟨p.1,p.2.1,p.2.2.1,t,p.2.2.2.1.tail,p.2.2.2.2,σ.tail⟩
set_option tactic.hygienic true in
def QX{σ}{z}(h:zO σ=some z):σ=z.st:=by
 cases σ with
 | nil=>contradiction
 | cons o e=>cases o<;>first
  | (contradiction)
  | (rename_i b d n a c;cases a<;>cases h;rfl)
def QJ(vs:List V):Option Unit:=ey vs λ v=>ae v.r? λ i=>gd (i=0) (some ())
def OY{vs}{u}(h:QJ vs=some u):vs= [.ref 0]:=by
 refine (oz h).elim λ v b=>(ja b.2).elim λ i a=> ?_;simp [b.1,V.Fb a.1,(eg a.2).1]
noncomputable def un{b c:Type}(l:List b)(f:b->List b->Option c):Option c:=match l with
 | []=>none
 | a::l=>f a l
def yc{b c:Type}{l:List b}{f:b->List b->Option c}{r}(h:un l f=some r):∃a t,l=a::t/\f a t=some r:=by
 cases l with
 | nil=>exact aQ h
 | cons a l=>exact ⟨a,l,rfl,h⟩
def t4(v:V):Option V:=ae v.t? λ l=>un l λ ζ l=>un l λ x l=>un l λ ζ l=>un l λ ζ l=>gd (l= []) (some x)
def Q_{v x}(h:t4 v=some x):∃a b c,v= .tup [a,x,b,c]:=
 (ja h).elim λ l z=>(yc z.2).elim λ a w=>w.elim λ l w=>(yc w.2).elim λ y u=>u.elim λ l u=>(yc u.2).elim λ b i=>i.elim λ l i=>(yc i.2).elim λ c j=>j.elim λ l j=>
   have k:=eg j.2
   {a,b,c,by rw [V.rX z.1,w.1,u.1,i.1,j.1,k.1,ar k.2]}
def lf(f:Addr)(vs:List V)(σ:St):Option (R V):=ae (zO σ) λ z=>ae (QJ vs) λ ζ=>
 oe (gd (f=263/\z.b=true) (some (.ok z.t z.st))) (oe (gd (f=721/\z.b=false) (some (.ok z.t z.st))) (gd (f=749/\z.b=false) (ae (t4 z.t) λ x=>some (.ok x z.on))))
noncomputable def sp_(i k:Nat):Option (Int×Int):=(wx i k).map λ o=>o.getD ((K7.lookup k).elim (0,0) λ n=>(n,n))
noncomputable def lv(i k:Nat):V:=(sp_ i k).elim .none λ p=>cond (p.1==p.2) (.int p.1) .none
noncomputable def ls(i k:Nat):V:=(sp_ i k).elim .none bg
def xb(i k:Nat):V:=cond (ef (lv i k)) .none (.tup [lv i k,lv i k])
noncomputable def isStr(k:Nat):Bool:=k==44 || k==46 || k==47 || k==49 || k==58 || k==62
def ir(i k:Nat):Bool:=isStr k && !(i==2 && k==46)
def Fx(i k:Nat):V:=cond (ir i k) (xb i k) (ls i k)
variable{α:Type}
def bj{f g:Nat->α}{n k}(h:(List.range n).map f=(List.range n).map g)(a:k<n):f k=g k:=List.map_inj_left.mp h k (nf.mpr a)
def hB{f g:Nat->Nat->α}{m n i k}(h:(List.range m).map (λ i=>(List.range n).map (f i))=(List.range m).map (λ i=>(List.range n).map (g i)))(hi:i<m)(a:k<n):f i k=g i k:=bj (bj h hi) a
end
section
variable{σ:St}{a b:Int}
def HN:prim (.ek .min) σ [.int a,.int b]=some (.int (if b<a then b else a)):=rfl
def sub_int:prim (.bin .Sub) σ [.int a,.int b]=some (.int (a-b)):=rfl
def jr{c d:List V}{n:Nat}{t:V}(e:c.drop n=t::d):c[n]? =some t:=by rw [←List.head?_drop,e];rfl
section
variable{C:Cm}{ρ:En}{σ:St}{x:X}{toks:List V}
def J_(h:Sem C (ev x ρ σ) (.ok (.lst toks) σ))(c:toks.length<=100000):Sem C (ev (.prim (.bin .Sub) [.prim (.ek .len) [x],.lit (.int 1)]) ρ σ) (.ok (.int ((toks.length:Int)-1)) σ):=
 ah (ai (ah (ai h .rr) (fb (ag c ⋯))) .rr) sub_int
def zR{y:X}{k:Nat}{t:V}(h:Sem C (ev x ρ σ) (.ok (.lst toks) σ))(g:Sem C (ev y ρ σ) (.ok (.int k) σ))(c:toks.length<=100000)(d:0<toks.length)(e:toks[if k<toks.length then k else toks.length-1]? =some t):
 Sem C (ev (.prim .item [x,.prim (.ek .min) [y,.prim (.bin .Sub) [.prim (.ek .len) [x],.lit (.int 1)]]]) ρ σ) (.ok t σ):=ah (ai h (ai (ah (ai g (ai (J_ h c) .rr)) HN) .rr)) ((by
 by_cases q:k<toks.length
 ·rw [if_pos q,if_neg (Int.not_lt.mpr (Int.le_sub_one_of_lt (sv.mpr q)))]
 ·rw [if_neg q,if_pos (Int.sub_one_lt_of_le (qn.mpr (xp q)))];exact (Int.ofNat_sub d).symm:(if toks.length-1<(k:Int) then (toks.length:Int)-1 else k)=(if k<toks.length then k else toks.length-1:Nat)).symm▸dj c e)
end
section
variable{d n:Nat}{toks rest more:List V}{xs:List O}
def Gn{t:V}:C (d+1) 721 [.ref 0] (.zip false toks n (t::rest) more::xs) (.ok t (.zip false toks n (t::rest) more::xs)):=hC.val λ f=>by
 have e:=jr (f _ (.head _)).1;have c:=(di.mp e).1;exact Cl.b6 0 _ [some _] rfl rfl (fG (zR .rr .rr (f _ (.head _)).2 (FR c) (if_pos c▸e)))
def xU{x y u v:V}:C (d+1) 749 [.ref 0] (.zip false toks n (.tup [x,y,u,v]::rest) more::xs) (.ok y (.zip false toks (n+1) rest more::xs)):=hC.val λ c=>Cl.b6 0 _ [some _] rfl rfl (p8 .rr .rr rfl .rr ⋯ (fG (ah (ai (ah (ai .rr (ai (ah (ai .rr (ai .rr .rr)) sub_int) .rr)) (show n+1-1=(n:Int) by lia▸dj (c _ (.head _)).2 (jr (c _ (.head _)).1))) (ai .rr .rr)) rfl)))
variable{f:Nat}{z:Zv}{r:R V}
def Ji(h:gd (f=263/\z.b=true) (some (R.ok z.t z.st))=some r):C (d+1) f [.ref 0] z.st r:=by
 cases z;cases (eg h).1.1;cases (eg h).1.2;cases (eg h).2;exact Ci
def NH(h:gd (f=721/\z.b=false) (some (R.ok z.t z.st))=some r):C (d+1) f [.ref 0] z.st r:=by
 cases z;cases (eg h).1.1;cases (eg h).1.2;cases (eg h).2;exact Gn
def GD(h:gd (f=749/\z.b=false) (ae (t4 z.t) λ x=>some (R.ok x z.on))=some r):C (d+1) f [.ref 0] z.st r:=by
 cases z;cases (eg h).1.1;cases (eg h).1.2;obtain ⟨x,e,q⟩:=ja (eg h).2;obtain ⟨a,b,c,e⟩:=Q_ e;subst e;cases q;exact xU
def OG(d:Nat)(f:Addr)(vs:List V)(σ:St)(r:R V)(h:lf f vs σ=some r):C (d+1) f vs σ r:=by
 refine (ja h).elim λ z q=>q.elim λ c h=> ?_;obtain ⟨u,e,h⟩:=ja h;simp [QX c,OY e];exact aO h (Ji) λ h=>aO h (NH) (GD)
variable{α:Type}{Z:Px}{t:Tk}
def QT{f:α->V}{s:Nat->Except Str α}{r:List Tk}:aw (RS Z) f (one s n (t::r))=xY (b7 Z) f t.k t.row t.col n (r.map tv) (s t.k):=CA
def Ti{f:α->V}{s:Nat->Except Str α}{r:List Tk}:aw (BS Z) f (one s n (t::r))=xY (bW Z) f t.k t.row t.col n (r.map tv) (s t.k):=CA
variable{vs:List V}
def Cl.dp{f:Addr}{σ:St}{e:Nat}(D:Nat)(h:bL lf T0 100 D f vs σ=some r):C (e+(D+1)) f vs σ r:=hC.mono (dg _ _) (Cl.deep (λ d=>OG d) D f vs σ r h)
def LP{α:Type}(C:Nat->Cm)(e f:Nat)(vs:List V)(F:α->V)(s:Nat->Except Str α):Prop:=∀(Z:Px) (n:Nat) {d:Nat} (t:Tk) (r:List Tk),t.k<nv->C (d+e) f vs (RS Z n (t::r)) (aw (RS Z) F (one s n (t::r)))
variable{D:Nat}
def Cl.lP{F:α->V}{s:Nat->Except Str α}(H:∀Z n e c l,(List.range nv).map (λ k=>bL lf T0 100 D f vs (b7 Z n (aH k e c::l)))=(List.range nv).map λ k=>some (xY (b7 Z) F k e c n l (s k))):LP C (D+1) f vs F s:=λ Z n ζ t r h=>QT▸Cl.dp D (bj (H Z n t.row t.col (r.map tv)) h)
def IP(C:Nat->Cm)(e f:Nat)(vs:List V)(j:Nat):Prop:=∀(Z:Px) (n:Nat) {d:Nat} (t:Tk) (r:List Tk),t.k<nv->∀{b:Bool},(t.k==j)=b->C (d+e) f vs (RS Z n (t::r)) (.ok (.bool b) (RS Z n (t::r)))
variable{j:Nat}
def Cl.iP(H:∀Z n g c l,(List.range nv).map (λ k=>bL lf T0 100 D f vs (b7 Z n (aH k g c::l)))=(List.range nv).map λ k=>some (.ok (.bool (k==j)) (b7 Z n (aH k g c::l)))):IP C (D+1) f vs j:=λ Z n ζ t r h ζ e=>e▸Cl.dp D (bj (H Z n t.row t.col (r.map tv)) h)
def EP(C:Nat->Cm)(e f:Nat)(m:Str):Prop:=∀(Z:Px) (n:Nat) {d:Nat} (t:Tk) (r:List Tk),t.k<nv->C (d+e) f [.ref 0,.str m] (RS Z n (t::r)) (.ok (.exc (b5 t.k m) t.row t.col) (RS Z n (t::r)))
variable{m:Str}
def Cl.eP(H:∀Z n e c l,(List.range nv).map (λ k=>bL lf T0 100 D f [.ref 0,.str m] (b7 Z n (aH k e c::l)))=(List.range nv).map λ k=>some (.ok (.exc (b5 k m) e c) (b7 Z n (aH k e c::l)))):EP C (D+1) f m:=λ Z n ζ t r h=>Cl.dp D (bj (H Z n t.row t.col (r.map tv)) h)
def LB{α:Type}(C:Nat->Cm)(e f:Nat)(vs:List V)(F:α->V)(s:Nat->Except Str α):Prop:=∀(Z:Px) (n:Nat) {d:Nat} (t:Tk) (r:List Tk),t.k<nv->C (d+e) f vs (BS Z n (t::r)) (aw (BS Z) F (one s n (t::r)))
def Cl.lB{F:α->V}{s:Nat->Except Str α}(H:∀Z n e c l,(List.range nv).map (λ k=>bL lf T0 100 D f vs (bW Z n (aH k e c::l)))=(List.range nv).map λ k=>some (xY (bW Z) F k e c n l (s k))):LB C (D+1) f vs F s:=λ Z n ζ t r h=>Ti▸Cl.dp D (bj (H Z n t.row t.col (r.map tv)) h)
def IB(C:Nat->Cm)(e f:Nat)(vs:List V)(j:Nat):Prop:=∀(Z:Px) (n:Nat) {d:Nat} (t:Tk) (r:List Tk),t.k<nv->∀{b:Bool},(t.k==j)=b->C (d+e) f vs (BS Z n (t::r)) (.ok (.bool b) (BS Z n (t::r)))
def Cl.iB(H:∀Z n g c l,(List.range nv).map (λ k=>bL lf T0 100 D f vs (bW Z n (aH k g c::l)))=(List.range nv).map λ k=>some (.ok (.bool (k==j)) (bW Z n (aH k g c::l)))):IB C (D+1) f vs j:=λ Z n ζ t r h ζ e=>e▸Cl.dp D (bj (H Z n t.row t.col (r.map tv)) h)
def EB(C:Nat->Cm)(e f:Nat)(m:Str):Prop:=∀(Z:Px) (n:Nat) {d:Nat} (t:Tk) (r:List Tk),t.k<nv->C (d+e) f [.ref 0,.str m] (BS Z n (t::r)) (.ok (.exc (b5 t.k m) t.row t.col) (BS Z n (t::r)))
def Cl.eB(H:∀Z n e c l,(List.range nv).map (λ k=>bL lf T0 100 D f [.ref 0,.str m] (bW Z n (aH k e c::l)))=(List.range nv).map λ k=>some (.ok (.exc (b5 k m) e c) (bW Z n (aH k e c::l)))):EB C (D+1) f m:=λ Z n ζ t r h=>Cl.dp D (bj (H Z n t.row t.col (r.map tv)) h)
end
end
section
noncomputable section
noncomputable def aA(p:Nat->Bool):Nat->List Tk->Nat×List Tk
 | n,[]=>(n,[])
 | n,t::r=>cond (p t.k) (aA p (n+1) r) (n,t::r)
noncomputable def aT(k:Nat):Bool:=k==4
noncomputable def cg(k:Nat):Bool:=k==3 || k==4
def c3(i:Nat)(a:Int)(n:Nat)(b:List Tk):Rs Int:=match b8 i (a7 b).k with
 | .error w=> .bad w n b
 | .ok p=>cond (decide (p.1<a)) (.bad "Range negative size" n b) (.ok p.1 (n+1) b.tail)
def gO(i n:Nat)(a:List Tk):Rs (Int×Int):=(one (fH i) n a).bind λ p n r=>
 cond (ir i (a7 a).k && ((a7 r).k==48 && isStr (a7 r.tail).k)) ((c3 i p.1 (n+1) r.tail).bind λ v n r=> .ok (p.1,v) n r) (.ok p n r)
noncomputable def i8:Int->Nat->List Tk->Rs Int
 | a,n,t::c::r=>cond (t.k==9) (match b8 1 c.k with
  | .error w=> .bad w (n+1) (c::r)
  | .ok p=>i8 (Builtin.bitOr a p.1) (n+2) r) (.ok a n (t::c::r))
 | a,n,b=> .ok a n b
def gP(i:Nat)(a:Int)(n:Nat)(b:List Tk):Rs Int:=cond (i==1) (i8 a n b) (.ok a n b)
def eb(i n:Nat)(b:List Tk):Rs (Int×Int):=(gO i n b).bind λ p n r=>cond (p.1==p.2) ((gP i p.1 n r).bind λ a n r=> .ok (a,a) n r) (.ok p n r)
def jX(i n:Nat)(a:List Tk):Rs Int:=(one (b8 i) n a).bind λ p n r=>gP i p.1 n r
noncomputable def bZ{c:Type}(f:Nat->Nat->List Tk->Rs c):Bool->List Nat->Nat->List Tk->Rs (List c)
 | _,[],n,r=> .ok [] n r
 | b,i::d,n,r=>(cond b (.ok () n r) (one (aG 7) n r)).bind λ ζ n r=>(f i n r).bind λ a n r=>(bZ f false d n r).bind λ l n r=> .ok (a::l) n r
set_option genInjectivity true in
inductive Dt where
 | cU
 | keys (is:List Nat)
noncomputable def Dt.ctorIdx(v:Dt):Nat:=v.casesOn 0 (λ ζ=>1)
def oj(n:Nat)(a:List Tk):Rs (Str×Str):=
 let k:=(a7 a).k
 cond (k==26 || k==27) (.ok (txt k,"") (n+1) a.tail)
  (cond (k==28 || k==29) (cond (eO (a7 a.tail).k) (.ok (txt k,txt (a7 a.tail).k) (n+2) a.tail.tail) (.bad (b5 (a7 a.tail).k "string") (n+1) a.tail)) (.bad (b5 k "verdict") n a))
def eY(d:Dt)(n:Nat)(a:List Tk):Rs V:=match d with
 | .cU=>(oj n a).bind λ p n r=> .ok (eF p) n r
 | .keys b=>(bZ jX true b n a).bind λ l n r=> .ok (.tup (l.map .int)) n r
def zX(n:Nat)(r:List Tk):Rs Int:=cond ((a7 r).k==12) (one f_ (n+1) r.tail) (.ok 0 n r)
def uv(n:Nat)(r:List Tk):Rs Str:=cond ((a7 r).k==16) (one p9 (n+1) r.tail) (.ok "" n r)
def hP(is:List Nat)(d:Option Dt)(n:Nat)(b:List Tk):Rs V:=
 (bZ eb true is n b).bind λ a n r=>(zX n r).bind λ e n r=>(uv n r).bind λ c n r=>match d with
   | none=> .ok (.tup [.tup (a.map bg),.none,.int e,.str c]) n r
   | some d=>(one (aG 8) n r).bind λ ζ n r=>(eY d n r).bind λ v n r=> .ok (.tup [.tup (a.map bg),v,.int e,.str c]) n r
mutual
noncomputable def cV(is:List Nat)(d:Option Dt):Nat->Nat->List Tk->Rs (List V)
 | 0,n,r=> .bad "" n r
 | f+1,n,r=>(one (aG 1) n r).bind λ ζ n r=>(mT is d f [] (aA aT n r).1 (aA aT n r).2).bind λ l n r=>(one (aG 2) n r).bind λ ζ n r=> .ok l n r
noncomputable def mT(is:List Nat)(d:Option Dt):Nat->List V->Nat->List Tk->Rs (List V)
 | 0,_,n,r=> .bad "" n r
 | f+1,a,n,r=>cond ((a7 r).k==2) (.ok a n r) ((cond ((a7 r).k==1) (cV is d f n r) ((hP is d n r).bind λ v n r=> .ok [v] n r)).bind λ l n r=>
  cond ((a7 (aA aT n r).2).k==6) (mT is d f (a++l) (aA aT ((aA aT n r).1+1) (aA aT n r).2.tail).1 (aA aT ((aA aT n r).1+1) (aA aT n r).2.tail).2) (.ok (a++l) (aA aT n r).1 (aA aT n r).2))
end
noncomputable def hR:List Tk->Bool
 | []=>false
 | t::r=> !(t.k==0) && (!(t.k==2) && (t.k==8 || hR r))
noncomputable def e5{e:Type}(j:Nat)(s:Nat->Except Str e):List e->Nat->List Tk->Rs (List e)
 | b,n,t::d::r=>cond (t.k==j) (match s d.k with
  | .error w=> .bad w (n+1) (d::r)
  | .ok a=>e5 j s (b++ [a]) (n+2) r) (.ok b n (t::d::r))
 | b,n,c=> .ok b n c
def bK{c:Type}(j:Nat)(s:Nat->Except Str c)(n:Nat)(b:List Tk):Rs (List c):=(one s n b).bind λ a n r=>e5 j s [a] n r
set_option genInjectivity true in
inductive Td where
 | ty (is:List Nat) | da (d:Dt) | fl (is:List Nat) | tm (i:Int) | sz (i:Int) | au | el (vs:List V)
noncomputable def Td.ctorIdx(v:Td):Nat:=v.casesOn (λ ζ=>0) (λ ζ=>1) (λ ζ=>2) (λ ζ=>3) (λ ζ=>4) 5 (λ ζ=>6)
def aW(is:List Nat):V:=.tup (is.map λ i=> .str (cG i))
noncomputable def Ge:Dt->V
 | .cU=> .str "verdict"
 | .keys a=>aW a
def jO(is:List Nat):V:=.tup (([0,1,2,3].filter λ i=>is.contains i).map λ i=> .str (bG i))
noncomputable def Td.key:Td->Str
 | .ty _=> "type" | .da _=> "data" | .fl _=> "flags" | .tm _=> "timeout" | .sz _=> "size" | .au=> "auto-merge" | .el _=> "elements"
noncomputable def Td.val:Td->V
 | .ty a=>aW a | .da d=>Ge d | .fl a=>jO a | .tm i=> .int i | .sz i=> .int i | .au=> .bool true | .el b=> .tup b
noncomputable def Td.EW :Td->Option (List Nat)
 | .ty a=>some a | _=>none
noncomputable def Td.Gg :Td->Option Dt
 | .da d=>some d | _=>none
def told(es:List Td)(w:Str):Bool:=es.any λ e=>e.key==w
noncomputable def og :List Td->Option (List Nat)
 | []=>none
 | e::a=>oe e.EW (og a)
noncomputable def jc :List Td->Option Dt
 | []=>none
 | e::a=>oe e.Gg (jc a)
noncomputable def yu:Str:="type or flags or timeout or size or auto-merge or elements"
noncomputable def bk(b:Bool):Str:=cond b "map" "set"
def gR(b:Bool):Str:=ap (bk b) " definition does not specify key"
def mS(b:Bool)(es:List Td)(n:Nat)(a:List Tk):Rs (List Td):=
 let k:=(a7 a).k
 cond (decide (10<=k/\k<16)) (cond (told es (txt k)) (.bad "You can only specify this once" n a) (cond (k==15 && !told es "type") (.bad (gR b) n a)
  (match k with
    | 10=>(bK 7 bY (n+1) a.tail).bind λ c n r=>cond b ((one (aG 8) n r).bind λ ζ n r=>cond ((a7 r).k==17) (.ok (es++ [.ty c,.da .cU]) (n+1) r.tail) ((bK 7 bY n r).bind λ d n r=> .ok (es++ [.ty c,.da (.keys d)]) n r)) (.ok (es++ [.ty c]) n r)
    | 11=>(bK 6 dr (n+1) a.tail).bind λ c n r=> .ok (es++ [.fl c]) n r
    | 12=>(one f_ (n+1) a.tail).bind λ i n r=> .ok (es++ [.tm i]) n r
    | 13=>(one pg (n+1) a.tail).bind λ i n r=> .ok (es++ [.sz i]) n r
    | 14=> .ok (es++ [.au]) (n+1) a.tail
    | _=>(one (aG 5) (n+1) a.tail).bind λ ζ n r=>(cV ((og es).getD []) (jc es) (2*r.length+2) n r).bind λ l n r=> .ok (es++ [.el l]) n r)))
  (.bad (b5 k yu) n a)
def gN(n:Nat)(a:List Tk):Rs Unit:=let k:=(a7 a).k
 cond (cg k || k==0 || k==2) (.ok () (aA cg n a).1 (aA cg n a).2) (.bad (b5 k "newline or semicolon") n a)
noncomputable def fW(b:Bool):Nat->List Td->Nat->List Tk->Rs (List Td)
 | 0,a,n,r=> .ok a n r
 | f+1,a,n,r=>cond ((a7 r).k==2) (.ok a (n+1) r.tail) ((mS b a n r).bind λ a n r=>(gN n r).bind λ ζ n r=>fW b f a n r)
def bR(b:Bool)(n:Nat)(a:List Tk):Rs (List Td):=(one (aG 1) n a).bind λ ζ n r=>(fW b (r.length+1) [] (aA cg n r).1 (aA cg n r).2).bind λ c n r=>
 cond (told c "type") (.ok c n r) (.bad (gR b) n r)
def look(es:List Td)(w:Str)(v:V):V:=((es.find? λ e=>e.key==w).map Td.val).getD v
end
end
section
variable{α:Type}{n:Nat}{t:Tk}{r:List Tk}
def aJ{s}{a:α}(h:s t.k= .ok a):one s n (t::r)= .ok a (n+1) r:=by show (match s t.k with | .ok a=>_ | .error w=>_)=_;rw [h];rfl
def aK{s:Nat->Except Str α}{w}(h:s t.k= .error w):one s n (t::r)= .bad w n (t::r):=by show (match s t.k with | .ok a=>_ | .error w=>_)=_;rw [h]
def Wf.nz(h:Wf (t::r)):t.k<nv:=h.elim λ h=>h.1▸by decide λ h=>h.2.1
def Wf.tl(h:Wf (t::r))(z:t.k≠0):Wf r:=h.elim (λ h=>absurd h.1 z) λ h=>h.2.2
noncomputable def br:List Tk->Nat
 | []=>0
 | t::r=>br r+cond (t.k==1) 1 0
structure a_(n:Nat)(rest:List Tk)(m:Nat)(r:List Tk):Prop where
 wf:Wf r
 le:n<=m
 eq:m+r.length=n+rest.length
 br:br r<=br rest
variable{m:Nat}{a b:List Tk}
def a_.trans{k}{c}(x:a_ n a m b)(y:a_ m b k c):a_ n a k c:={y.wf,ag x.le y.le,y.eq.trans x.eq,ag y.br x.br}
def a_.rfl(w:Wf a):a_ n a n a:={w,bV _,Eq.refl _,bV _}
def a_.step(w:Wf (t::r))(z:t.k≠0):a_ n (t::r) (n+1) r:={w.tl z,kN _,kU n r.length,ed _ _}
def a_.len(x:a_ n a m b):b.length<=a.length:=LY (a:=n) (ag (o5 x.le _) (b1 x.eq))
def a_.cnt(x:a_ n a m b){k}(h:k+n<=m):k<=a.length:=LY (a:=n) (ag (b1 (Nat.add_comm n k)) (ag h (ag (ed ..) (b1 x.eq))))
noncomputable def Rs.good{α:Type}(n:Nat)(c:List Tk):Rs α->Prop
 | .ok _ m r=>a_ n c m r
 | .bad _ _ _=>True
section
variable{α β:Type}{n:Nat}{rest:List Tk}{x:Rs α}
def Rs.good.bind{f:α->Nat->List Tk->Rs β}(g:x.good n rest)(k:∀a m r,a_ n rest m r->(f a m r).good m r):(x.bind f).good n rest:=by
 cases x with
 | bad=>exact trivial
 | ok a m r=>
  have z:=k a m r g;refine (?_:(f a m r).good n _)
  revert z
  cases f a m r with
  | bad=>exact λ ζ=>trivial
  | ok b c d=>exact λ z=>a_.trans g z
variable{s:Nat->Except Str α}
def hY(w:Wf rest)(c:∀a,s 0≠.ok a):(one s n rest).good n rest:=by
 match rest,w with
 | t::r,w=>
  refine (?_:Rs.good n _ (match s t.k with | .ok a=> .ok a _ r | .error w=> .bad w n _));cases v:s t.k with
  | error=>exact trivial
  | ok a=>exact .step w λ z=>c a (z▸v)
def b_{b}{y}(c:b=true->x.good n rest)(d:b=false->y.good n rest):(cond b x y).good n rest:=by
 cases b with
 | true=>exact c rfl
 | false=>exact d rfl
variable{p:Nat->Bool}
def c9(c:p 0=false):∀(rest) (n),Wf rest->a_ n rest (aA p n rest).1 (aA p n rest).2
 :=by
 intro f
 induction f with
 | nil=>
  intro n w;exact w.elim
 | cons t r d=>
  intro n w
  exact by
   have e:aA p n (t::r)=cond _ _ _:=rfl;rw [e];cases q:p t.k with
   | false=>exact .rfl w
   | true=>
    have z:t.k≠0:=λ z=>by rw [z,c] at q;contradiction
    exact (a_.step w z).trans (d _ (w.tl z))
variable{i:Nat}
def sO{c}:∀a,rF c i 0≠.ok a:=λ a h=>by contradiction
variable{j:Nat}
def bM{k}{u}(h:aG j k= .ok u):k=j:=by
 unfold aG at h;by_cases q:k=j
 ·exact q
 ·rw [if_neg q] at h;contradiction
def oq(c:j≠0):∀a,aG j 0≠.ok a:=λ a h=>c (bM h).symm
def O4(c:p 0=false)(w:Wf rest)(h:p (a7 rest).k=true):∃t r,rest=t::r/\p t.k=true/\a_ n rest (n+1) r:=by
 match rest,w with
 | t::r,w=>exact {t,r,rfl,h,.step w λ z=>by rw [show (a7 _).k=t.k from rfl,z,c] at h;contradiction}
def fC(c:p 0=false)(w:Wf rest)(h:p (a7 rest).k=true):a_ n rest (n+1) rest.tail:=by
 obtain ⟨t,r,e,_,g⟩:=O4 (n:=n) c w h;subst e;exact g
variable{a:Int}
def oO(w:Wf rest):(c3 i a n rest).good n rest:=by
 unfold c3;cases v:b8 i _ with
 | error=>exact trivial
 | ok p=>exact b_ (λ ζ=>trivial) λ ζ=>fC (p:=λ k=>match b8 i k with | .ok _=>true | .error _=>false) rfl w (by rw [v])
def oN(w:Wf rest):(gO i n rest).good n rest:=(hY w sO).bind λ p m r g=>b_ (λ q=>by
 have s:=fC (p:=λ k=>k==48) (n:=m) rfl g.wf (nq.mp (nq.mp q).2).1;have z:((c3 i p.1 (m+1) _).bind λ v n r=> .ok (p.1,v) n r).good _ _:=(oO s.wf).bind λ ζ ζ ζ g=> .rfl g.wf
 revert z
 cases (c3 i p.1 _ _).bind _ with
 | bad=>exact λ ζ=>trivial
 | ok=>exact λ z=>s.trans z) λ ζ=> .rfl g.wf
theorem qa:∀(rest) (a) (n),Wf rest->(i8 a n rest).good n rest
 | [],a,n,w=>w.elim
 | [t],a,n,w=> .rfl w
 | t::c::r,a,n,w=>b_ (λ q=>by
  have z:t.k≠0:=λ z=>by simp_all
  cases v:b8 1 _ with
  | error=>exact trivial
  | ok p=>
   have s:=(a_.step (n:=n) w z).trans (.step (w.tl z) λ z=>by rw [z] at v;contradiction);have g:=qa r (Builtin.bitOr a p.1) (n+2) s.wf;refine (?_:(i8 _ _ r).good n _)
   revert g
   cases i8 _ _ r with
   | bad=>exact λ ζ=>trivial
   | ok=>exact λ g=>s.trans g) λ ζ=> .rfl w
def mU(w:Wf rest):(gP i a n rest).good n rest:=b_ (λ ζ=>qa _ _ _ w) λ ζ=> .rfl w
def jY(w:Wf rest):(eb i n rest).good n rest:=(oN w).bind λ ζ ζ ζ g=>b_ (λ ζ=>(mU g.wf).bind λ ζ ζ ζ g=> .rfl g.wf) λ ζ=> .rfl g.wf
def pf(w:Wf rest):(jX i n rest).good n rest:=(hY w sO).bind λ ζ ζ ζ g=>mU g.wf
def i7{f:Nat->Nat->List Tk->Rs α}(c:∀i n r,Wf r->(f i n r).good n r):∀(is) (b) (n) (rest),Wf rest->(bZ f b is n rest).good n rest
 :=by
 intro e
 induction e with
 | nil=>
  exact λ b n rest w=> .rfl w
 | cons i is d=>
  exact λ b n rest w=>(show Rs.good n _ (cond b (.ok () n _) _) from b_ (λ ζ=>a_.rfl w) λ ζ=>hY w (oq ⋯)).bind λ ζ ζ ζ g=>(c i _ _ g.wf).bind λ ζ ζ ζ g=>(d _ _ _ g.wf).bind λ ζ ζ ζ g=> .rfl g.wf
def yn(w:Wf rest):(oj n rest).good n rest:=b_ (λ q=>fC (p:=λ k=>k==26 || k==27) rfl w q) λ ζ=>b_ (λ q=>b_ (λ c=>
 have s:=fC (p:=λ k=>k==28 || k==29) rfl w q
 s.trans (fC rfl s.wf c)) λ ζ=>trivial) λ ζ=>trivial
def zZ{d}(w:Wf rest):(eY d n rest).good n rest:=by
 cases d with
 | cU=>exact (yn w).bind λ ζ ζ ζ g=> .rfl g.wf
 | keys c=>exact (i7 (λ ζ ζ ζ w=>pf w) c _ n _ w).bind λ ζ ζ ζ g=> .rfl g.wf
def r7{x}(c:p 0=false)(d:∀a,s 0≠.ok a)(w:Wf rest):(cond (p (a7 rest).k) (one s (n+1) rest.tail) (.ok x n rest)).good n rest:=b_ (λ q=>by
 have g:=hY (n:=n+1) (fC (n:=n) c w q).wf d
 revert g
 cases one s _ _ with
 | bad=>exact λ ζ=>trivial
 | ok=>exact λ g=>(fC c w q).trans g) λ ζ=> .rfl w
def sf{is}{d}(w:Wf rest):(hP is d n rest).good n rest:=(i7 (λ ζ ζ ζ w=>jY w) is _ n _ w).bind λ ζ ζ ζ g=>
 (r7 (p:=λ k=>k==12) rfl λ a h=>by contradiction g.wf).bind λ ζ ζ ζ g=>(r7 (p:=λ k=>k==16) rfl λ a h=>by contradiction g.wf).bind λ ζ ζ ζ g=>by
   cases d with
   | none=>exact .rfl g.wf
   | some d=>exact (hY g.wf (oq ⋯)).bind λ ζ ζ ζ g=>(zZ g.wf).bind λ ζ ζ ζ g=> .rfl g.wf
noncomputable def Rs.iu(c n:Nat)(rest:List Tk):Rs (List V)->Prop
 | .ok l m r=>a_ n rest m r/\l.length+c<=m
 | .bad _ _ _=>True
variable{c:Nat}
def w9(d:j≠0)(w:Wf rest){f}(k:∀m r,a_ n rest m r->m=n+1->(f () m r).iu c m r):((one (aG j) n rest).bind f).iu c n rest:=by
 cases rest with
 | nil=>contradiction
 | cons t r=>
  cases v:aG j t.k with
  | error y=>rw [aK v];exact trivial
  | ok u=>
   rw [aJ v];have a:=a_.step (n:=n) w λ z=>d ((bM v).symm.trans z);have z:=k _ r a rfl;refine (?_:(f () _ r).iu c n _)
   revert z
   cases f () _ r with
   | bad=>exact λ ζ=>trivial
   | ok=>exact λ z=>{a.trans z.1,z.2}
def pI{m}{r}{c'}{x:Rs _}(a:a_ n rest m r)(d:c<=c')(g:x.iu c' m r):x.iu c n rest:=by
 cases x with
 | bad=>exact trivial
 | ok=>exact {a.trans g.1,ag (ee d _) g.2}
theorem jQ(is)(d):∀(f),(∀n rest,Wf rest->(cV is d f n rest).iu (n+1) n rest)/\∀c g n rest,Wf rest->g.length+c<=n->((mT is d f g n rest).bind λ l n r=>(one (aG 2) n r).bind λ ζ n r=> .ok l n r).iu c n rest
 | 0=>{λ ζ ζ ζ=>trivial,λ ζ ζ ζ ζ ζ ζ=>trivial}
 | f+1=>by
  have B:=jQ is d f;refine {λ n rest w=>w9 ⋯ w λ m r a e=> ?_,λ c g n rest w h=> ?_}
  ·have o:=c9 (p:=aT) rfl r m a.wf;exact pI o (b1 e.symm) (B.2 m [] _ _ o.wf (by rw [List.length_nil,jH];exact o.le))
  ·have y:∀(g:List V) n rest,Wf _->g.length+c<=n+1->((one (aG 2) n rest).bind λ ζ n r=>Rs.ok g n r).iu c n _:=λ g n rest w h=>w9 ⋯ w λ m r a e=>{.rfl a.wf,by simp_all}
   have u:∀(g:List V) m r,a_ n _ m r->g.length+c<=m+1->((cond ((a7 _).k==6) (mT is d f g _ _) (.ok g _ _)).bind λ l n r=>(one _ n r).bind λ ζ n r=> .ok l n r).iu c n rest:=λ g m r a h=>by
    have o:=c9 (p:=aT) rfl r m a.wf;cases q:(a7 _).k==6 with
    | false=>exact pI (a.trans o) (bV _) (y g _ _ o.wf (ag h (ez o.le)))
    | true=>
     have D:=fC (p:=λ k=>k==6) (n:=(aA aT m r).1) rfl o.wf q;have A:=c9 (p:=aT) rfl _ ((aA aT m r).1+1) D.wf;exact pI (((a.trans o).trans D).trans A) (bV _) (B.2 c g _ _ A.wf (ag h (ag (ez o.le) A.le)))
   show ((cond _ _ ((cond _ _ ((hP is d n _).bind _)).bind _)).bind _).iu c n _;cases (a7 _).k==2 with
   | true=>exact y g n _ w (nj h)
   | false=>
    cases (a7 _).k==1 with
    | true=>
     have z:=B.1 n _ w
     revert z
     cases cV is d f n _ with
     | bad=>exact λ ζ=>trivial
     | ok l m r=>exact λ z=>u _ m r z.1 (by rw [hH,sG,Nat.add_comm];exact ag (ee h _) (nj (ag (ee (kN n) _) z.2)))
    | false=>
     have z:=sf (is:=is) (d:=d) (n:=n) w
     revert z
     cases hP is d n _ with
     | bad=>exact λ ζ=>trivial
     | ok v m r=>exact λ z=>u _ m r z (by rw [hH,Bw,sG];exact ez (ag h z.le))
end
end
section
noncomputable def Td.ok:Td->Prop
 | .ty a=>(∀i∈a,i<4)/\a.length<=200000
 | .da d=>∀a,d= .keys a->(∀i∈a,i<4)/\a.length<=200000
 | .tm i=>0<=i
 | .el b=>b.length<=200000
 | _=>True
structure a8(es:List Td):Prop where
 nd:(es.map Td.key).Nodup
 dt:told es "data"=true->told es "type"=true
 ok:∀e∈es,e.ok
noncomputable def OU:List Str:= ["type","data","flags","timeout","size","auto-merge","elements"]
def Ih(e:Td):e.key∈OU:=by
 cases e<;>first
  | exact .head _
  | exact .tail _ (.head _)
  | exact .tail _ (.tail _ (.head _))
  | exact .tail _ (.tail _ (.tail _ (.head _)))
  | exact .tail _ (.tail _ (.tail _ (.tail _ (.head _))))
  | exact .tail _ (.tail _ (.tail _ (.tail _ (.tail _ (.head _)))))
  | exact .tail _ (.tail _ (.tail _ (.tail _ (.tail _ (.tail _ (.head _))))))
variable{es:List Td}
def a8.len(h:a8 es):es.length<=7:=by
 have:=List.Nodup.length_le_of_subset h.nd λ x m=>(i0.mp m).elim λ e a=>a.2▸Ih e;rw [cJ] at this;exact this
def a8.nil:a8 []:={kO,λ h=>(by assumption),λ ζ m=>by grind}
variable{w:Str}
def CN:told es w=true↔w∈es.map Td.key:=by
 unfold told;rw [u3,i0];exact {λ a=>a.elim λ e a=>{e,a.1,gU a.2},λ b=>b.elim λ e b=>{e,b.1,b.2▸ff _}}
variable{e:Td}
def iy:told (es++ [e]) w=(told es w || e.key==w):=by
 unfold told;simp [List.any_append]
def a8.snoc(h:a8 es)(t:told es e.key=false)(o:e.ok)(c:(e.key== "data")=false∨told es "type"=true):a8 (es++ [e]):=by
 refine {?_,λ q=> ?_,λ x m=>(e6.mp m).elim (h.ok x) λ m=>cu.mp m▸o}
 case refine_2=>
  rw [iy] at q ⊢
  rcases c with c | c
  ·rw [c,Bool.or_false] at q;rw [h.dt q];rfl
  ·rw [c];rfl
 rw [qo,List.map_singleton,List.nodup_append];refine {h.nd,nh.mpr ⟨kR,kO⟩,λ a m b d q=> ?_};rw [cu] at d;simp only [q,d] at m;rw [CN.mpr m] at t;contradiction
def AN(w:Str):∀es:List Td,df (es.map Td.key) (es.map Td.val) w=(es.find? λ e=>e.key==w).map Td.val
 :=by
 intro b
 induction b with
 | nil=>
  exact rfl
 | cons e es a=>
  exact by
   refine (?_:(if e.key=w then some _ else df _ _ w)=_);rw [List.find?_cons];by_cases q:e.key=w
   ·rw [if_pos q,q,ff];rfl
   ·rw [if_neg q,beq_eq_false_iff_ne.mpr q];exact a
def lY(w:Str)(es:List Td):(df (es.map Td.key) (es.map Td.val) w).isSome=told es w:=by
 rw [AN,Option.isSome_map];cases h:told es w with
 | true=>
  exact (u3.mp h).elim λ e a=>List.find?_isSome.mpr ⟨e,a.1,a.2⟩
 | false=>
  rw [Option.isSome_eq_false_iff,sH,List.find?_eq_none];exact λ e m q=>by rw [show told es w=true from u3.mpr ⟨e,m,q⟩] at h;contradiction
def h9(w:Str)(v:V)(es:List Td):(df (es.map Td.key) (es.map Td.val) w).getD v=look es w v:=by rw [AN];rfl
def sb:∀{es:List Td},told es e.key=false->bB (es.map Td.key) (es.map Td.val) e.key e.val=((es++ [e]).map Td.key,(es++ [e]).map Td.val)
 :=by
 intro c
 induction c with
 | nil=>
  intro _;exact rfl
 | cons a es b=>
  intro h
  exact by
   have h:=Bool.or_eq_false_iff.mp h;refine (?_:(if a.key=e.key then _ else _)=_);rw [if_neg (beq_eq_false_iff_ne.mp h.1),b h.2];rfl
def Be(e:Td):(e.key== "type")=e.EW.isSome:=by cases e<;>kernel_rfl
def L1(e:Td):(e.key== "data")=e.Gg.isSome:=by cases e<;>kernel_rfl
def Q7{is:List Nat}(h:e.EW =some is):e= .ty is:=by cases e<;>cases h;rfl
def Mu{d:Dt}(h:e.Gg =some d):e= .da d:=by cases e<;>cases h;rfl
def n_(h:told es "type"=true):∃is,og es=some is/\df (es.map Td.key) (es.map Td.val) "type"=some (aW is)/\Td.ty is∈es:=by
 induction es with
 | nil=>contradiction
 | cons e es b=>
  have h:=show (e.key== "type" || told es _)=true from h;rw [Be] at h;cases q:e.EW with
  | some is=>cases Q7 q;exact {is,rfl,if_pos rfl,.head _}
  | none=>
   rw [q] at h;refine (b h).elim λ is a=>{is,?_,?_,.tail _ a.2.2}
   ·show oe _ _=some is;exact q▸a.1
   ·refine (if_neg λ k=> ?_).trans a.2.1;have z:=Be e;rw [k,q] at z;contradiction
def xI(es:List Td):look es "data" .none=((jc es).map Ge).getD .none:=by
 unfold look
 induction es with
 | nil=>rfl
 | cons e es a=>
  rw [List.find?_cons,L1];cases q:e.Gg with
  | some d=>cases Mu q;rfl
  | none=>
   refine (?_:_=((oe _ _).map Ge).getD _);exact q.symm▸a
theorem vz:∀{es:List Td} {d:Dt},jc es=some d->Td.da d∈es
 | e::es,d,h=>aO h (λ h=>Mu h▸.head _) λ h=> .tail _ (vz h)
end
section
variable(Z:Px)(n:Nat)
def AU:LB C 10 803 [.ref 0] .int f_:=Cl.lB λ ζ ζ ζ ζ ζ=>⋯
def LI:LB C 10 796 [.ref 0,.int 4294967295] .int pg:=Cl.lB λ ζ ζ ζ ζ ζ=>⋯
def LG:LB C 7 763 [.ref 0] .str p9:=Cl.lB λ ζ ζ ζ ζ ζ=>⋯
def xh:LB C 7 756 [.ref 0,.str "sign",.str "{"] (λ ζ=> .none) (aG 1):=Cl.lB λ ζ ζ ζ ζ ζ=>⋯
def H6:LB C 7 756 [.ref 0,.str "sign",.str "}"] (λ ζ=> .none) (aG 2):=Cl.lB λ ζ ζ ζ ζ ζ=>⋯
def H5:LB C 7 756 [.ref 0,.str "sign",.str "="] (λ ζ=> .none) (aG 5):=Cl.lB λ ζ ζ ζ ζ ζ=>⋯
def H4:LB C 7 756 [.ref 0,.str "sign",.str "."] (λ ζ=> .none) (aG 7):=Cl.lB λ ζ ζ ζ ζ ζ=>⋯
def xg:LB C 7 756 [.ref 0,.str "sign",.str ":"] (λ ζ=> .none) (aG 8):=Cl.lB λ ζ ζ ζ ζ ζ=>⋯
def OK:IB C 4 742 [.ref 0,.str "sign",.str "{"] 1:=Cl.iB λ ζ ζ ζ ζ ζ=>⋯
def tL:IB C 4 742 [.ref 0,.str "sign",.str "}"] 2:=Cl.iB λ ζ ζ ζ ζ ζ=>⋯
def tK:IB C 4 742 [.ref 0,.str "sign",.str ","] 6:=Cl.iB λ ζ ζ ζ ζ ζ=>⋯
def FG:IB C 4 742 [.ref 0,.str "sign",.str "."] 7:=Cl.iB λ ζ ζ ζ ζ ζ=>⋯
def A0:IB C 4 742 [.ref 0,.str "word",.str "timeout"] 12:=Cl.iB λ ζ ζ ζ ζ ζ=>⋯
def AZ:IB C 4 742 [.ref 0,.str "word",.str "comment"] 16:=Cl.iB λ ζ ζ ζ ζ ζ=>⋯
def LN:IB C 4 742 [.ref 0,.str "word",.str "verdict"] 17:=Cl.iB λ ζ ζ ζ ζ ζ=>⋯
def LM:IB C 4 742 [.ref 0,.str "word",.str "-"] 48:=Cl.iB λ ζ ζ ζ ζ ζ=>⋯
variable{d:Nat}
def HV(t:Tk)(r:List Tk)(h:t.k<nv)(q:(t.k==28 || t.k==29)=false):C (d+8) 876 [.ref 0] (BS Z n (t::r)) (cond (t.k==26 || t.k==27) (.ok (eF (txt t.k,"")) (BS Z (n+1) r)) (.ex (.exc (b5 t.k "verdict") t.row t.col) (BS Z n (t::r)))):=by
 have z:=bj (f:=λ k=>cond (k==28 || k==29) none (bL lf T0 100 7 876 [.ref 0] (bW Z n (aH k t.row t.col::r.map tv)))) (g:=λ k=>cond (k==28 || k==29) none (some (cond (k==26 || k==27) (.ok (eF (txt k,"")) (bW Z (n+1) (r.map tv))) (.ex (.exc (b5 k "verdict") t.row t.col) (bW Z n (aH k t.row t.col::r.map tv)))))) ⋯ h;simp only [q] at z;exact Cl.dp 7 z
def DZ(row col:Int)(t:Tk)(r:List Tk)(h:t.k<nv):C (d+8) 876 [.ref 0] (BS Z n ({28,row,col}::t::r)) (cond (eO t.k) (.ok (eF (txt 28,txt t.k)) (BS Z (n+2) r)) (.ex (.exc (b5 t.k "string") t.row t.col) (BS Z (n+1) (t::r)))):=
 Cl.dp 7 (bj (f:=λ k=>bL lf T0 100 7 876 _ (bW Z n (aH 28 row col::aH k _ _::r.map tv))) (g:=λ k=>some (cond _ (.ok (eF (txt 28,txt k)) _) (.ex (.exc (b5 k _) _ _) (bW Z _ (aH k _ _::r.map tv))))) ⋯ h)
def DY(row col:Int)(t:Tk)(r:List Tk)(h:t.k<nv):C (d+8) 876 [.ref 0] (BS Z n ({29,row,col}::t::r)) (cond (eO t.k) (.ok (eF (txt 29,txt t.k)) (BS Z (n+2) r)) (.ex (.exc (b5 t.k "string") t.row t.col) (BS Z (n+1) (t::r)))):=
 Cl.dp 7 (bj (f:=λ k=>bL lf T0 100 7 876 _ (bW Z n (aH 29 row col::aH k _ _::r.map tv))) (g:=λ k=>some (cond _ (.ok (eF (txt 29,txt k)) _) (.ex (.exc (b5 k _) _ _) (bW Z _ (aH k _ _::r.map tv))))) ⋯ h)
def AS(i:Nat)(hi:i<4)(t:Tk)(r:List Tk)(h:t.k<nv)(ws:b2 t.k=true):C (d+10) 820 [kL i,.str (txt t.k)] (BS Z n (t::r)) (.ok (lv i t.k) (BS Z n (t::r))):=by
 have z:=hB (f:=λ i k=>cond (b2 k) (bL lf T0 100 9 820 [kL i,.str (txt k)] (bW Z n (aH k t.row t.col::r.map tv))) none) (g:=λ i k=>cond (b2 k) (some (R.ok (lv i k) (bW Z n (aH k t.row t.col::r.map tv)))) none) ⋯ hi h;simp only [ws,cond_true] at z;exact Cl.dp 9 z
def LF(i:Nat)(hi:i<4)(t:Tk)(r:List Tk)(h:t.k<nv)(ws:b2 t.k=true):C (d+11) 834 [kL i,.str (txt t.k)] (BS Z n (t::r)) (.ok (ls i t.k) (BS Z n (t::r))):=by
 have z:=hB (f:=λ i k=>cond (b2 k) (bL lf T0 100 10 834 [kL i,.str (txt k)] (bW Z n (aH k t.row t.col::r.map tv))) none) (g:=λ i k=>cond (b2 k) (some (R.ok (ls i k) (bW Z n (aH k t.row t.col::r.map tv)))) none) ⋯ hi h;simp only [ws,cond_true] at z;exact Cl.dp 10 z
def OM(i:Nat)(hi:i<4)(t:Tk)(r:List Tk)(h:t.k<nv)(ws:b2 t.k=true):C (d+6) 841 [.ref 0,kL i,xb i t.k] (BS Z n (t::r)) (s8 (bW Z) (λ p:Int×Int=>bg (p.1,p.1)) t.k t.row t.col n (r.map tv) (b8 i t.k)):=by
 have z:=hB (f:=λ i k=>cond (b2 k) (bL lf T0 100 5 841 [.ref 0,kL i,xb i k] (bW Z n (aH k t.row t.col::r.map tv))) none) (g:=λ i k=>cond (b2 k) (some (s8 (bW Z) (λ p:Int×Int=>bg (p.1,p.1)) k t.row t.col n (r.map tv) (b8 i k))) none) ⋯ hi h;simp only [ws,cond_true] at z;exact Cl.dp 5 z
def ON(i:Nat)(hi:i<4)(t:Tk)(r:List Tk)(h:t.k<nv)(ws:b2 t.k=true):C (d+6) 841 [.ref 0,kL i,Fx i t.k] (BS Z n (t::r)) (s8 (bW Z) bg t.k t.row t.col n (r.map tv) (fH i t.k)):=by
 have z:=hB (f:=λ i k=>cond (b2 k) (bL lf T0 100 5 841 [.ref 0,kL i,Fx i k] (bW Z n (aH k t.row t.col::r.map tv))) none) (g:=λ i k=>cond (b2 k) (some (s8 (bW Z) bg k t.row t.col n (r.map tv) (fH i k))) none) ⋯ hi h;simp only [ws,cond_true] at z;exact Cl.dp 5 z
def LA:EB C 6 735 "type or flags or timeout or size or auto-merge or elements":=Cl.eB λ ζ ζ ζ ζ ζ=>⋯
def LC:EB C 6 735 "newline or semicolon":=Cl.eB λ ζ ζ ζ ζ ζ=>⋯
def Lz:EB C 6 735 "string":=Cl.eB λ ζ ζ ζ ζ ζ=>⋯
def AR:EB C 6 735 "value":=Cl.eB λ ζ ζ ζ ζ ζ=>⋯
end
noncomputable def PS(b:List Int)(a:Int)(c:List O):St:=.list (b.map .int):: .dict ["row","rest"] [.ref 0,.int a]::c
section
def GH{d}{m:Int}(f:0<m/\m<100000)(b)(e)(c)(l:c.length<=100):
 C (d+1) 624 [.ref 1,.int m] (PS c b e) (.ok (.int ((c.headD 0+b).fmod m)) (PS c.tail (b.fdiv m) e)):=by
 refine Cl.b6 0 kA [some _,some _,none,none] ⋯ rfl ?_
 have k:Sem (C d) (ao 0 kA.body.tail [some (.ref 1),some (.int m),some (.int (c.headD 0)),none] (PS c.tail b e) aM aP) (.ok (.int ((c.headD 0+b).fmod m)) (PS c.tail (b.fdiv m) e)):=by
  refine aV (σ':=PS _ b e) (ah (vs:= [.int (c.headD 0+b),.int m]) (.ret ⋯) (by
  show gd _ _=_
  rw [gd,if_pos f.1])) (ρ':= [some (.ref 1),some _,some (.int (c.headD 0)),some (.int ((c.headD 0+b).fmod m))]) ⋯ (aC (ah (σ':=PS c.tail _ e) (vs:= [.int _,.int m]) .rr (by
  show gd _ _=_
  rw [gd,if_pos f])) ?_)
  exact .rr
 cases c with
 | nil=>exact aV (v:=.int 0) .rr rfl k
 | cons a c=>
  exact aV (aC (r1:=R.ok (V.bool true) (PS _ _ e)) (.ret (rfl)) (by
   refine aC (r1:=R.ok _ (PS _ _ e)) .rr (aX (v:=0) ⋯ (aX (v:=(.int a,c.map _)) rfl (gj ?_ ?_)))
   ·rw [cJ];exact ag (kS l) (by simp)
   ·exact .rr:Sem _ (ev _ [some (.ref 1),some (.int m),none,none] (PS (a::c) _ e)) (.ok _ (PS c b e)))) rfl k
end
end PM
end
section
open PySem PySem.W PyProof.Rows PySem.Calls PySem.StrLaws PySem.Builtin PySem.Builtin.Str
namespace PM
noncomputable def toS(l:List Nat):Str:=⟨l.toArray⟩
noncomputable def gJ(a:List Nat):List Nat->List (List Nat)
 | []=> [a]
 | c::l=>cond (c==32) (a::gJ [] l) (gJ (a++ [c]) l)
def GK(v:List Nat):∀(u a:List Nat),gJ a (u++32::v)=gJ a u++gJ [] v
 :=by
 intro d
 induction d with
 | nil=>
  intro a;exact rfl
 | cons c u b=>
  intro a
  exact by
   refine (?_:cond _ (a::gJ [] (u++32::v)) (gJ _ (u++32::v))=cond _ _ _++gJ [] v);rw [b [],b];cases c==32<;>rfl
noncomputable def uA:List Nat->Nat->List Nat
 | [],_=> []
 | c::l,i=>cond (c==32) (i::uA l (i+1)) (uA l (i+1))
def Nl{p l:List Nat}{c:Nat}:(p++c::l)[p.length]? =some c:=by simp
def HE(x:Str):∀(l p:List Nat) (a:Array Nat) (d:Nat),x.cps.toList=p++l->d<=p.length->a.size<=p.length->
 (forIn (List.range' p.length (l.length+1)) (a,d) (occBody x {#[32]} x.length (x.length+1))).run.fst.toList=a.toList++uA l p.length
 :=by
 intro k
 induction k with
 | nil=>
  intro p a d e i j
  exact by
   refine (?_:(forIn [p.length] _ (occBody x _ _ _)).run.fst.toList=a.toList++ []);rw [sC];unfold occBody
   rw [if_neg (by
    refine λ f=> ?_;have:=(subAt_one x 32 _).mp ⟨f.1.2,f.2⟩;rw [e] at this
    simp at this),ng]
   rfl
 | cons c l b=>
  intro p a d e i j
  exact by
   have h:(p++ [c]).length=p.length+1:=by simp
   refine (?_:(forIn (p.length::List.range' _ (l.length+1)) _ (occBody x _ _ _)).run.fst.toList=a.toList++cond _ _ _);rw [sC];unfold occBody;by_cases q:c=32
   ·subst q
    rw [if_pos (by
     have:=(subAt_one x 32 _).mpr (by rw [e];exact Nl)
     exact {{{show a.size<_ from sF (ag j (u7 this.1)),i},this.1},this.2})]
    have b:=b (p++ [32]) (a.push p.length) _ (by simp_all) (bV _) (by simp_all);rw [h] at b;refine Eq.trans b ?_;rw [Array.toList_push,jJ];rfl
   ·rw [if_neg (by
     refine λ g=> ?_;have:=(subAt_one x 32 _).mp ⟨g.1.2,g.2⟩;rw [e,Nl] at this
     exact q (ar this))]
    have b:=b (p++ [c]) a d (by simp_all) (h▸nj i) (h▸nj j);rw [h] at b;refine Eq.trans b ?_;rw [beq_false_of_ne q];rfl
def ue(x:Str)(i j:Nat):strSub x i j=toS ((x.cps.toList.drop i).take (j-i)):=by
 show Str.mk _=Str.mk _
 congr 1
 apply Array.ext';rw [Array.toList_extract]
def Ds(x:Str):∀(l p:List Nat) (a:Nat),x.cps.toList=p++l->a<=p.length->partsFrom x 1 a (uA l p.length)=(gJ (p.drop a) l).map toS
 :=by
 intro f
 induction f with
 | nil=>
  intro p a e h
  exact by
   refine (?_: [strSub x a _]= [toS _]);rw [ue,e,ng]
   rw [(by
    have:=congrArg List.length e;rw [ng] at this
    exact this:x.length=p.length),List.take_of_length_le (by simp)]
 | cons c l b=>
  intro p a e h
  exact by
   have d:(p++ [c]).length=p.length+1:=by simp
   refine (?_:partsFrom x 1 a (cond _ _ _)=(cond _ _ (gJ _ l)).map toS);cases q:c==32 with
   | true=>
    have b:=b (p++ [c]) _ (by rw [e];simp) (bV _);rw [d] at b;refine (?_:strSub x a _::partsFrom x 1 _ _=toS _::(gJ [] l).map toS);rw [b,List.drop_of_length_le (d▸bV _),ue,e,List.drop_append_of_le_length h,List.take_left' (u4)]
   | false=>
    have b:=b (p++ [c]) a (by rw [e];simp) (d▸nj h);rw [d] at b;refine (?_:partsFrom x 1 a (uA l _)=(gJ _ l).map toS);rw [b,List.drop_append_of_le_length h]
def CZ(x:Str):Txt.split x {#[32]}=(gJ [] x.cps.toList).map toS:=by
 have k:partsFrom x 1 0 (occurrences x {#[32]} 0 x.length (x.length+1))=(gJ [] x.cps.toList).map toS:=by
  rw [occ_eq];exact Eq.trans (congrArg _ (HE x _ [] #[] 0 rfl (bV _) (bV _))) (Ds x _ [] 0 rfl (bV _))
 unfold Txt.split
 split
 ·rename_i h
  have e:=F1 (Nat.lt_one_iff.mp (by
   rcases (Bool.or_eq_true _ _).mp h with h | h
   ·exact gx h
   ·have d:PySem.Builtin.Str.strKind {#[32]}=1:=by kernel_rfl
    have f:1<=PySem.Builtin.Str.strKind x:=by unfold PySem.Builtin.Str.strKind;split<;>(try split)<;>decide
    rw [d] at h;exact absurd (gx h) (Nat.not_lt.mpr f)))
  rw [e]
  congr 1
  cases x
  congr 1
  exact Array.ext' e
 ·split
  ·rename_i h
   rw [←k,(by
  intro b h;subst h;refine (?_: [strSub x 0 _]= [x])
  rw [sub_whole]:∀b,b= []->partsFrom x 1 0 b= [x]) _ (qm.mp h)]
  ·rw [partsBetween_eq];exact k
end PM
end
section
open PySem PySem.W PyProof.Rows PySem.Calls PySem.SeqAt PySem.StrLaws
namespace PM
def ec(l:List Nat):List (List Nat):=(gJ [] l).filter λ w=> !w.isEmpty
def wd(k:Nat):List Nat:=cond (gI k== "string") (33::(txt k).cps.toList) (txt k).cps.toList
def jj(u v):ec (u++32::v)=ec u++ec v:=by unfold ec;simp [GK]
def HH(u):ec (u++ [32])=ec u:=by rw [jj];exact ng _
structure Tw(l r:Bool)(s:Str)(n L:Nat):Prop where
 ks:∃ks:List Nat,ec s.cps.toList=ks.map wd/\(∀k∈ks,1<=k/\k<70)/\ks.count 1<=n
 len:s.length<=L
 left:l=true->s.cps.toList= []∨∃u,s.cps.toList=32::u
 right:r=true->∃u,s.cps.toList=u++ [32]
def Np(a b):(ap a b).length=a.length+b.length:=by
 show (a.cps.toList++b.cps.toList).toArray.size=a.cps.size+b.cps.size;simp
def Tw.Qy{l r l' r'}{a b}{n L m M}(x:Tw l r' a n L)(y:Tw l' r b m M)(e:ec (a.cps.toList++b.cps.toList)=ec a.cps.toList++ec b.cps.toList):Tw false r (ap a b) (n+m) (L+M) where
 ks:=x.ks.elim λ ks p=>y.ks.elim λ c q=>{ks++c,by
  show ec (a.cps.toList++b.cps.toList)=_;simp [e,p.1,q.1],λ k h=>(e6.mp h).elim (p.2.1 k) (q.2.1 k),by
  rw [List.count_append];exact kcj p.2.2 q.2.2}
 len:=by rw [Np];exact kcj x.len y.len
 left:=nofun
 right:=λ h=>(y.right h).elim λ u e=>{a.cps.toList++u,by
  show a.cps.toList++b.cps.toList=_
  simp [e]}
def Tw.vP{l r l'}{a b}{n L m M}(x:Tw l true a n L)(y:Tw l' r b m M):Tw false r (ap a b) (n+m) (L+M):=x.Qy y (by
 obtain ⟨u,e⟩:=x.right rfl;rw [e,HH,jJ]
 exact jj u _)
def Tw.EH{l r r'}{a b}{n L m M}(x:Tw l r' a n L)(y:Tw true r b m M):Tw false r (ap a b) (n+m) (L+M):=x.Qy y (by
 rcases y.left rfl with e | ⟨u,e⟩
 ·rw [e];simp [show ec []= [] from rfl]
 ·simp only [e,jj]
  exact congrArg _ (jj [] u).symm)
def Tw.mono{l r}{a}{n L c b}(x:Tw l r a n L)(h:n<=c)(d:L<=b):Tw l r a c b where
 ks:=x.ks.elim λ ks p=>{ks,p.1,p.2.1,ag p.2.2 h}
 len:=ag x.len d
 left:=x.left
 right:=x.right
def Tw.any{l r}{a}{n L}(x:Tw l r a n L):Tw false false a n L:=⟨x.ks,x.len,nofun,nofun⟩
def F3(w:List Nat):Nat:=((List.range 70).find? λ k=>wd k==w).getD 0
def mn(l r:Bool)(s:Str)(n L:Nat):Bool:=
 (((ec s.cps.toList).map F3).map wd==ec s.cps.toList) && (((ec s.cps.toList).map F3).all λ k=>Nat.ble 1 k && Nat.ble k 69) && Nat.ble (((ec s.cps.toList).map F3).count 1) n && Nat.ble s.length L
   && (!l || (s.cps.toList== [] || s.cps.toList.head? ==some 32)) && (!r || s.cps.toList.getLast? ==some 32)
def i5{l r}{s}{n L}(h:mn l r s n L=true):Tw l r s n L:=by
 unfold mn at h;simp only [qq,Bool.or_eq_true,uW] at h;obtain ⟨⟨⟨⟨⟨f,g⟩,i⟩,j⟩,c⟩,d⟩:=h;refine {{_,f.symm,λ k m=> ?_,eN i},eN j,λ e=> ?_,λ e=> ?_}
 ·have:=gy.mp g k m;simp only [qq] at this;exact {eN this.1,sF (eN this.2)}
 ·subst e
  rcases c with c | c | c
  ·contradiction
  ·exact .inl c
  ·cases q:s.cps.toList with
   | nil=>exact .inl rfl
   | cons a b=>rw [q] at c;cases c;exact .inr ⟨_,rfl⟩
 ·subst e
  rcases d with d | d
  ·contradiction
  ·exact List.getLast?_eq_some_iff.mp d
def Dw{f:Type}(C:Cm)(e:List O)(t:St->Tree f)(Q:f->Prop):Prop:=
 ∀d b,d.length<=100->∃v c a,c.length<=100/\Q v/\Sem C (t (PS d b e)) (.ok v (PS c a e))
section
variable{α β:Type}{C:Cm}{xs:List O}{t:St->Tree α}{f:α->St->Tree β}{Q':β->Prop}
def Dw.bind{Q:α->Prop}(h:Dw C xs t Q)(k:∀v,Q v->Dw C xs (f v) Q'):Dw C xs (λ σ=>bT (t σ) f) Q':=λ j i l=>(h j _ l).elim λ v q=>q.elim λ e q=>q.elim λ d c=>(k v c.2.1 e _ c.1).elim λ w q=>q.elim λ g q=>q.elim λ a b=>{w,g,a,b.1,b.2.1,aC c.2.2 b.2.2}
def Dw.kb{Q:α->Prop}(h:Dw C xs t Q)(k:∀v,Q v->Dw C xs (f v) Q'):Dw C xs (λ σ=>kT (t σ) f) Q':=λ j i l=>(h j _ l).elim λ v q=>q.elim λ e q=>q.elim λ d c=>(k v c.2.1 e _ c.1).elim λ w q=>q.elim λ g q=>q.elim λ a b=>{w,g,a,b.1,b.2.1,pH c.2.2 b.2.2}
theorem Dw.ret{Q:α->Prop}(v:α)(h:Q v):Dw C xs (λ σ=> .ret (.ok v σ)) Q:=λ b a l=>{v,b,a,l,h,.rt _}
def Dw.cv{c:St->Tree α}{Q:α->Prop}(e:∀b a,t (PS b a xs)=c (PS b a xs))(h:Dw C xs c Q):Dw C xs t Q:=λ b a l=>by rw [e];exact h b _ l
def Dw.on{t:α->St->Tree β}{Q:β->Prop}{o:Option α}{v:α}(e:o=some v)(h:Dw C xs (t v) Q):Dw C xs (λ σ=>aF o λ v=>t v σ) Q:=by subst e;exact h
def Dw.mono{Q Q':α->Prop}(h:Dw C xs t Q)(k:∀v,Q v->Q' v):Dw C xs t Q':=λ e d l=>(h e _ l).elim λ v q=>q.elim λ c q=>q.elim λ a b=>{v,c,a,b.1,k v b.2.1,b.2.2}
def Dw.rt{Q:α->Prop}(v:α)(e:∀b a,t (PS b a xs)= .ret (.ok v (PS b a xs)))(h:Q v):Dw C xs t Q:=.cv e (.ret v h)
def Dw.iff{t a b:St->Tree V}{w:Bool}{Q:V->Prop}(e:∀d c,t (PS d c xs)= .ret (.ok (.bool w) (PS d c xs)))(k:Dw C xs (λ σ=>cond w (a σ) (b σ)) Q):Dw C xs (λ σ=>bT (t σ) λ v σ=>tB v (a σ) (b σ)) Q:=
 .bind (.rt _ e rfl) λ v q=>by subst q;exact k
variable{n:Nat}{ρ:En}{kn kb:Kn}{ys:List Y}{Q Q1 Q2:V->Prop}{x:X}
def du{t:Tg}(h:Dw C xs (λ σ=>ev x ρ σ) Q)(k:∀v,Q v->∃ρ',dR t v ρ=some ρ'/\Dw C xs (λ σ=>ao n ys ρ' σ kn kb) Q1):Dw C xs (λ σ=>ao n (.asg t x::ys) ρ σ kn kb) Q1:=
 .bind h λ v q=>(k v q).elim λ ζ z=> .on z.1 z.2
def gb(h:Dw C xs (λ σ=>ev x ρ σ) Q):Dw C xs (λ σ=>ao n (.ret x::ys) ρ σ kn kb) Q:=h
def bI{f:Addr}{b:List X}(vs:List V)(e:∀c a,cw b ρ (PS c a xs)= .ret (.ok vs (PS c a xs)))(h:Dw C xs (λ σ=>bp f vs σ) Q):Dw C xs (λ σ=>ev (.call f b) ρ σ) Q:=
 Dw.bind (.rt vs e rfl) λ v q=>by subst q;exact h
variable{y:X}
def jd{p:Pr}(j:Dw C xs (λ σ=>ev x ρ σ) Q1)(m:Dw C xs (λ σ=>ev y ρ σ) Q2)(k:∀a b,Q1 a->Q2 b->∃v,(∀σ,prim p σ [a,b]=some v)/\Q v):Dw C xs (λ σ=>ev (.prim p [x,y]) ρ σ) Q:=
 Dw.bind (Q:=λ g=>∃a b,g= [a,b]/\Q1 a/\Q2 b)
  (.bind j λ a i=> .bind (Q:=λ g=>∃b,g= [b]/\Q2 b) (.bind m λ b c=> .ret [b] ⟨b,rfl,c⟩) λ g q=> .ret _ (by obtain ⟨b,e,c⟩:=q;subst e;exact ⟨a,b,rfl,i,c⟩))
  λ g q=>by
   obtain ⟨a,b,e,i,c⟩:=q;subst e;exact (k a b i c).elim λ v h=>λ o d l=>{v,o,d,l,h.2,by show Sem C (iY _ _) _;rw [h.1];exact .rt _}
def TV(l r:Bool)(n L:Nat)(v:V):Prop:=∃s,v= .str s/\Tw l r s n L
def add_str{a b:Str}{σ:St}(h:a.length+b.length<=100000):prim (.bin .Add) σ [.str a,.str b]=some (.str (ap a b)):=by
 show oe (gd _ _) _=_;rw [gd,if_pos (ag h ⋯)];rfl
variable{l r:Bool}{L:Nat}
def TV.lit{n:Nat}(s:Str)(h:mn l r s n L=true):TV l r n L (.str s):={s,rfl,i5 h}
variable{m M:Nat}
def fm{l':Bool}{n:Nat}(d:Dw C xs (λ σ=>ev x ρ σ) (TV l true n L))(g:Dw C xs (λ σ=>ev y ρ σ) (TV l' r m M))(h:L+M<=100000):Dw C xs (λ σ=>ev (.prim (.bin .Add) [x,y]) ρ σ) (TV false r (n+m) (L+M)):=
 jd d g λ a b i j=>by
  obtain ⟨s,e,p⟩:=i;obtain ⟨t,c,q⟩:=j;subst e c;exact {_,λ ζ=>add_str (ag (kcj p.len q.len) h),_,rfl,p.vP q}
def lj{r':Bool}{n:Nat}(d:Dw C xs (λ σ=>ev x ρ σ) (TV l r' n L))(g:Dw C xs (λ σ=>ev y ρ σ) (TV true r m M))(h:L+M<=100000):Dw C xs (λ σ=>ev (.prim (.bin .Add) [x,y]) ρ σ) (TV false r (n+m) (L+M)):=
 jd d g λ a b i j=>by
  obtain ⟨s,e,p⟩:=i;obtain ⟨t,c,q⟩:=j;subst e c;exact {_,λ ζ=>add_str (ag (kcj p.len q.len) h),_,rfl,p.EH q}
def kd{n:Nat}(s:Str)(h:mn l r s n L=true):Dw C xs (λ σ=>ev (.lit (.str s)) ρ σ) (TV l r n L):=.ret _ (.lit s h)
end
section
variable{d:Nat}{xs:List O}
def Cl.dw{f:Nat}{vs:List V}{Q:V->Prop}(n:Nat)(g:Fn)(ρ:En)(e:T0 f=some g)(a:args g vs=some ρ)(h:Dw (C d) xs (λ σ=>ao n g.body ρ σ aM aP) Q):Dw (C (d+1)) xs (λ σ=>bp f vs σ) Q:=λ k j l=>(h k _ l).elim λ v q=>q.elim λ i q=>q.elim λ b c=>{v,i,b,c.1,c.2.1,.cl (Cl.b6 n g ρ e a c.2.2) .rr}
def rK(m:Nat)(h:0<m/\m<100000):Dw (C (d+1)) xs (λ σ=>bp 624 [.ref 1,.int m] σ) λ v=>∃g:Nat,g<m/\v= .int g:=by
 intro c a l;have b:(0:Int)<m:=Int.natCast_pos.mpr h.1;refine {_,_,_,ag (by simp) l,{((c.headD 0+a).fmod m).toNat,?_,?_},.cl (GH {b,sv.mpr h.2} _ xs c l) .rr}
 ·exact (Int.toNat_lt (Int.fmod_nonneg_of_pos _ b)).mpr (Int.fmod_lt_of_pos _ b)
 ·exact congrArg _ (Int.toNat_of_nonneg (Int.fmod_nonneg_of_pos _ b)).symm
def vA(l:List V)(h:0<l.length/\l.length<100000):Dw (C (d+2)) xs (λ σ=>bp 631 [.ref 1,.lst l] σ) λ v=>v∈l:=by
 refine Cl.dw 0 _ [some _,some _] rfl rfl (gb (jd (Q1:=λ v=>v= .lst l) (Q2:=λ v=>∃g:Nat,g<l.length/\v= .int g) (.rt _ λ ζ ζ=>by kernel_rfl rfl) ?_ ?_))
 ·refine bI _ (λ k c=> ?_) (rK _ h);have:prim (.ek .len) (PS k c xs) [.lst l]=some _:=fb (lb (iC h.2));show bT (bT (iY _ _) _) _=_;rw [this];kernel_rfl
 ·intro a b i j;obtain ⟨g,f,e⟩:=j;subst i e;exact {_,λ σ=>dj (iC h.2) (cQ f),List.getElem_mem f}
end
section
variable{α β:Type}{C:Cm}{xs:List O}
def Dw.g{t}{Q:α->Prop}{c}[Decidable c](e:c)(h:Dw C xs t Q):Dw C xs (λ σ=>gT c (t σ)) Q:=.cv λ b a=>by rw [gT,if_pos e] h
variable{n:Nat}{ρ:En}{kn kb:Kn}{ys:List Y}{Q Q1 Q2:V->Prop}
def ID{f}{x y}{a b}(e:∀d c,ev x ρ (PS d c xs)= .ret (.ok a (PS d c xs)))(g:Dw C xs (λ σ=>ev y ρ σ) λ v=>v=b)(h:Dw C xs (λ σ=>bp f [a,b] σ) Q):Dw C xs (λ σ=>ev (.call f [x,y]) ρ σ) Q:=
 Dw.bind
  (Dw.bind (.rt a e (Q:=λ v=>v=a) rfl) λ v q=>Dw.bind (Q:=λ v=>v= [b])
    (.bind g λ w q=> .ret [w] (q▸rfl)) λ j i=> .ret _ (by rw [q,i]))
  λ v q=>by subst q;exact h
def xM{fe}{ft}{t}(I:En->Prop):∀(l) (h:∀v∈l,∀ρ,I ρ->∃ρ',dR t v ρ=some ρ'/\I ρ'/\(∀σ,ft ρ' σ= .ret (.ok true σ))/\Dw C xs (λ σ=>fe ρ' σ) Q) (ρ),I ρ->
 Dw C xs (λ σ=>je fe ft t l ρ σ) λ vs=>vs.length=l.length/\∀v∈vs,Q v
 :=by
 intro k
 induction k with
 | nil=>
  exact λ ζ ζ ζ=> .ret [] ⟨rfl,nofun⟩
 | cons v l j=>
  exact λ h ρ i=>by
   refine (h v (.head _) ρ i).elim λ ρ' a=> .on a.1 (.kb (.rt _ (λ ζ ζ=>a.2.2.1 _) rfl) λ b d=> ?_);subst d;exact .kb a.2.2.2 λ v q=> .kb (j (λ v f=>h v (.tail _ f)) ρ' a.2.1) λ vs c=> .ret _ {congrArg (· +1) c.1,λ w g=>(a0.mp g).elim (λ e=>e▸q) (c.2 w)}
def B6{e}{t}{a}{l}(I:En->Prop)(hi:Dw C xs (λ σ=>i3 a ρ σ) λ x=>x=l)(i:I (ll (bw t) ρ))(h:∀v∈l,∀ρ,I ρ->∃ρ',dR t v ρ=some ρ'/\I ρ'/\Dw C xs (λ σ=>ev e ρ' σ) Q):
 Dw C xs (λ σ=>ev (.comp e t a []) ρ σ) λ v=>∃vs,v= .lst vs/\vs.length=l.length/\∀v∈vs,Q v:=
 .bind hi λ x q=>by
  subst q;exact .kb (xM I x (λ v b ρ i=>(h v b ρ i).elim λ ρ' z=>{ρ',z.1,z.2.1,λ ζ=>rfl,z.2.2}) _ i) λ vs q=> .ret _ ⟨vs,rfl,q.1,q.2⟩
def D5{a b x}:Txt.join x [a,b]=ap (ap a x) b:=by
 simp [tV];exact glued_eq_join x _
def xx{x}{a}(h:∀y∈a,y.length<=40)(b:a.length<=2)(c:x.length<=10):JoinOk x a=true:=by
 unfold JoinOk
 rw [joinFits h (by
  have:=Nat.mul_le_mul b c
  lia)]
 rfl
noncomputable def J3:Str:=" . "
def B2{y}(h:Dw C xs (λ σ=>ev y ρ σ) λ v=>∃vs,v= .lst vs/\(vs.length=1∨vs.length=2)/\∀v∈vs,TV false false 0 32 v):Dw C xs (λ σ=>ev (.met .join (.lit (.str " . ")) [y]) ρ σ) (TV false false 0 67):=by
 refine Dw.kb (Q:=λ i=>∃vs,i= [.lst vs]/\(vs.length=1∨vs.length=2)/\∀v∈vs,TV false false 0 32 v) (.bind h λ v q=> .ret [v] ?_) λ i q=> ?_
 ·simp_all
 obtain ⟨vs,e,m,q⟩:=q;subst e
 refine (by
  match vs,m,q with
  | [a],_,q=>
   obtain ⟨s,e,p⟩:=q a (.head _);subst e;refine {.str (Txt.join J3 [s]),?_,s,?_,p.any.mono (bV _) (by simp)}
   ·show gd _ _=_;rw [gd,if_pos (xx (λ y f=>by cases f with | head=>exact ag p.len ⋯ | tail _ h=>exact nomatch h) (kN 1) ⋯:JoinOk J3 [s]=true)]
   ·rfl
  | [a,b],_,q=>
   obtain ⟨s,e,p⟩:=q a (.head _);obtain ⟨t,k,g⟩:=q b (.tail _ (.head _));subst e k;refine {.str _,?_,ap (ap s J3) t,congrArg _ D5,?_}
   ·show gd _ _=_
    rw [gd,if_pos (xx (λ y f=>by
    cases f with
    | head=>exact ag p.len ⋯
    | tail _ h=>cases h with
     | head=>exact ag g.len ⋯
     | tail _ h=>exact nomatch h) (bV 2) ⋯:JoinOk J3 [s,t]=true)]
   ·exact (p.EH (i5 (n:=0) (L:=3) rfl)).vP g:∃v,oD J3 vs=some v/\TV _ _ 0 67 v).elim λ v d=> ?_
 refine λ o c l=>{v,o,c,l,d.2,?_};show Sem C (iY (oe (oD J3 vs) _) _) _;exact d.1▸.rt _
end
def gm(is:List Nat):Prop:=(is.length=1∨is.length=2)/\∀i∈is,i<4
def gm.le{is}(h:gm is):(is.map kL).length<=1000000:=by rw [cJ];exact h.1.elim (λ e=>e▸by decide) λ e=>e▸by decide
noncomputable def mh(i:Nat):List Str:=match i with
 | 0=> ["22","ftp","5-9","0x10","70000","9-5","ssh-25"]
 | 1=> ["syn","fin | ack","3","300","1-5"]
 | 2=> ["eth0","!lo","wan*","!w*","!a - !c","!c - !a","a/b"]
 | _=> ["10.0.0.1","10.0.0.0/8","10.0.0.1-10.0.0.9","300.1.1.1","10.0.0.0/33","10.0.0.9-10.0.0.1"]
def vw(i)(h:i<4):(mh i).all (λ s=>mn false false s 0 32)=true/\0<(mh i).length/\(mh i).length<100000:=
 QA (P:=λ i=>(mh i).all (λ s=>mn false false s 0 32)=true/\0<(mh i).length/\(mh i).length<100000) h {rfl,⋯,⋯} {rfl,⋯,⋯} {rfl,⋯,⋯} {rfl,⋯,⋯}
section
variable{C:Cm}{xs:List O}{ρ:En}
def Gh{x}{l}(h:Dw C xs (λ σ=>ev x ρ σ) λ v=>v= .lst l)(k:l.length<=1000000):Dw C xs (λ σ=>i3 (.val x) ρ σ) λ v=>v=l:=
 .bind h λ v q=>by
  subst q;exact Dw.on rfl (.g k (.ret l rfl))
def Gi{x}{m:Nat}(c:m<=100)(h:Dw C xs (λ σ=>ev x ρ σ) λ v=>∃g,g<m/\v= .int g):Dw C xs (λ σ=>i3 (.kr x) ρ σ) λ v=>∃g,g<m/\v=cp 0 g:=
 .bind h λ v q=>by
  obtain ⟨g,b,e⟩:=q;subst e;have a:=ag (ag (iC b) c) (by decide:100<=100000);exact Dw.on rfl (.g {ky a,sv.mpr (fZ a ⋯)} (.ret _ ⟨g,b,rfl⟩))
def qb{g}:(cp 0 g).length=g:=by unfold cp;rw [cJ,FQ]
end
section
def Cl.up{k}{d e}{g}{t:St->Tree k}{Q}(h:Dw (C d) g t Q)(i:d<=e):Dw (C e) g t Q:=λ j f l=>(h j _ l).elim λ v q=>q.elim λ c q=>q.elim λ a b=>{v,c,a,b.1,b.2.1,Cl.pE i b.2.2}
def lh{d}{f}(b:List Str)(l r)(n L)(h:b.all (λ s=>mn l r s n L)=true)(c:0<b.length/\b.length<100000):Dw (C (d+2)) f (λ σ=>bp 631 [.ref 1,.lst (b.map .str)] σ) (TV l r n L):=
 (vA _ (by rw [cJ];exact c)).mono λ v e=>(i0.mp e).elim λ s a=>{s,a.2.symm,i5 (gy.mp h s a.1)}
def MB{d}{a}:Dw (C (d+3)) a (λ σ=>bp 664 [.ref 1] σ) (TV true true 0 5):=
 Cl.dw 0 _ [some _] rfl rfl (gb (bI [.ref 1,.lst (([" ; "," \n "," ; \n "]:List Str).map _)] λ ζ ζ=>by kernel_rfl (lh _ _ _ 0 5 rfl ⋯)))
def Ek{d}{a}{i}(h:i<4):Dw (C (d+1)) a (λ σ=>bp 657 [kL i] σ) λ v=>v= .lst ((mh i).map .str):=
 Cl.dw 0 _ [some _] rfl rfl (gb (.rt _ λ ζ ζ=>by
  match i,h with
  | 0,_=>kernel_rfl
  | 1,_=>kernel_rfl
  | 2,_=>kernel_rfl
  | 3,_=>kernel_rfl rfl))
def vB{d}{m}{is}(h:gm is):Dw (C (d+3)) m (λ σ=>bp 669 [.ref 1,.lst (is.map kL)] σ) (TV false false 0 67):=by
 refine Cl.dw 0 _ [some _,some _,none] rfl rfl (gb (B2 ((B6 (l:=is.map kL) (Q:=TV false false 0 32) (λ f=>∃o,f= [some _,some _,o]) ?_ ⟨none,rfl⟩ ?_).mono λ v q=> ?_)))
 ·exact Gh (.rt _ λ ζ ζ=>by kernel_rfl rfl) h.le
 ·intro v j f b;obtain ⟨o,e⟩:=b;obtain ⟨i,a,g⟩:=i0.mp j;subst e g;exact {[some _,some _,some _],rfl,⟨_,rfl⟩,ID λ ζ ζ=>by kernel_rfl (bI _ λ ζ ζ=>by kernel_rfl (Cl.up (Ek (d:=0) (h.2 i a)) (dg (0+1) (d+1)))) (lh _ _ _ 0 32 (vw i (h.2 i a)).1 (vw i (h.2 i a)).2)}
 ·obtain ⟨k,e,c,q⟩:=q;simp [cJ] at c;exact {k,e,by rw [c];exact h.1,q}
end
noncomputable def dD:Option Dt->V
 | none=> .none
 | some .cU=> .str "verdict"
 | some (.keys a)=> .lst (a.map kL)
noncomputable def ly:Option Dt->Prop
 | some (.keys a)=>gm a
 | _=>True
section
variable{C:Cm}{xs:List O}{ρ:En}{n:Nat}{kn kb:Kn}{ys:List Y}{Q:V->Prop}
def nQ{c}{a}(e:∀d b,ev c ρ (PS d b xs)= .ret (.ok (.bool false) (PS d b xs)))(k:Dw C xs (λ σ=>ao n ys ρ σ kn kb) Q):Dw C xs (λ σ=>ao n (.ifs c a []::ys) ρ σ kn kb) Q:=
 Dw.iff e k
def B1{c x}{b}(e:∀d a,ev c ρ (PS d a xs)= .ret (.ok (.bool true) (PS d a xs)))(k:Dw C xs (λ σ=>ev x ρ σ) Q):Dw C xs (λ σ=>ao n (.ifs c [.ret x] b::ys) ρ σ kn kb) Q:=
 Dw.iff e k
def B3{c a b}(e:∀f d,ev c ρ (PS f d xs)= .ret (.ok (.bool true) (PS f d xs)))(k:Dw C xs (λ σ=>ev a ρ σ) Q):Dw C xs (λ σ=>ev (.cM c a b) ρ σ) Q:=
 Dw.iff e k
def B4{c a b}(e:∀f d,ev c ρ (PS f d xs)= .ret (.ok (.bool false) (PS f d xs)))(k:Dw C xs (λ σ=>ev b ρ σ) Q):Dw C xs (λ σ=>ev (.cM c a b) ρ σ) Q:=
 Dw.iff e k
def gf{x}{l r}{m L}{s}(e:∀b a,ev x ρ (PS b a xs)= .ret (.ok (.str s) (PS b a xs)))(h:Tw l r s m L):Dw C xs (λ σ=>ev x ρ σ) (TV l r m L):=.rt _ e ⟨s,rfl,h⟩
def TV.mono{l r}{m L b a}(h:m<=b)(c:L<=a)(v)(x:TV l r m L v):TV l r b a v:=x.elim λ s p=>{s,p.1,p.2.mono h c}
end
section
def MC{d}{b}{is}(h:gm is){d0}(c:ly d0):Dw (C (d+4)) b (λ σ=>bp 676 [.ref 1,.lst (is.map kL),dD d0] σ) (TV false false 0 160):=by
 refine Cl.dw 0 mB [some (.ref 1),some (.lst (is.map kL)),some (dD d0),none] rfl (rfl) (du (lj (m:=0) (bI _ λ ζ ζ=>by kernel_rfl (vB h))
  (bI [.ref 1,.lst ((["",""," timeout 2s"," comment !hi"," timeout 90 comment x"]:List Str).map .str)] λ ζ ζ=>by kernel_rfl (Cl.up (lh (d:=0) _ _ false 0 22 ⋯ ⋯) (by lia))) ⋯) ?_)
 intro v g;obtain ⟨s,e,p⟩:=g;subst e;refine {[some (.ref 1),some (.lst (is.map kL)),some (dD d0),some (.str s)],rfl,?_}
 have a:Dw (C (d+3)) b (λ σ=>ev (.prim _ [.loc 3,.lit (.str _)]) [some (.ref 1),some (.lst (is.map kL)),some (dD d0),some (.str s)] σ) _:=
  lj (gf λ ζ ζ=>by kernel_rfl p) (kd " : " (l:=true) (r:=true) (n:=0) (L:=3) rfl) ⋯
 match d0,c,a with
 | none,_,_=>exact nQ λ ζ ζ=>by kernel_rfl (gb (B3 (λ ζ ζ=>rfl) ((gf (x:=.loc 3) (λ ζ ζ=>⋯) p).mono (TV.mono (bV _) ⋯))))
 | some .cU,_,a=>exact B1 (λ ζ ζ=>⋯) (((fm (m:=0) (M:=8) a (bI [.ref 1,.lst ((["accept","jump c","return","goto !s","maybe"]:List Str).map .str)] (λ ζ ζ=>⋯) (Cl.up (lh (d:=0) _ false false 0 8 ⋯ ⋯) (by lia))) ⋯).mono (TV.mono (bV _) ⋯)))
 | some (.keys i),f,a=>exact nQ (λ ζ ζ=>⋯) (gb (B4 (λ ζ ζ=>⋯) ((fm (m:=0) (M:=67) a (bI [.ref 1,.lst (i.map kL)] (λ ζ ζ=>⋯) (vB f)) ⋯).mono (TV.mono (bV _) ⋯))))
end
section
variable{C:Cm}{xs:List O}{ρ:En}{n:Nat}{kn kb:Kn}{ys:List Y}{Q Q1:V->Prop}{t:Tg}
def Mz{b}{kn}(N)(I:Nat->En->Prop)(h:∀j v ρ,j<N->I j ρ->∃a,dR t v ρ=some a/\∀k,(∀ρ',I (j+1) ρ'->Dw C xs (k ρ') Q)->Dw C xs (λ σ=>b a σ k kn) Q)
 (z:∀j ρ,j<=N->I j ρ->Dw C xs (kn ρ) Q):∀(l) (j) (ρ),j+l.length<=N->I j ρ->Dw C xs (λ σ=>forL t b kn l ρ σ) Q
 :=by
 intro g
 induction g with
 | nil=>
  exact λ j ρ d i=>z j ρ d i
 | cons v l f=>
  exact λ j ρ d i=>(h j v ρ (Nat.lt_of_add_right_lt (dx▸d)) i).elim λ a c=>Dw.on c.1 (c.2 _ λ ρ' e=>f _ ρ' (by rw [uZ];exact d) e)
def B5{c}{b}(N)(I:Nat->En->Prop)(f:N+1<=100)(hi:Dw C xs (λ σ=>i3 c ρ σ) λ v=>∃g,g<N+1/\v=cp 0 g)(i:I 0 ρ)
 (h:∀j v ρ,j<N->I j ρ->∃a,dR t v ρ=some a/\∀k,(∀ρ',I (j+1) ρ'->Dw C xs (k ρ') Q)->Dw C xs (λ σ=>ao n b a σ k λ ρ σ=>ao n ys ρ σ kn kb) Q)
 (z:∀j ρ,j<=N->I j ρ->Dw C xs (λ σ=>ao n ys ρ σ kn kb) Q):Dw C xs (λ σ=>ao n (.e3 t c b::ys) ρ σ kn kb) Q:=
 Dw.bind hi λ v q=>by
  obtain ⟨g,d,e⟩:=q;subst e;exact Mz N I h z _ 0 ρ (by refine qb▸?_;rw [jH];exact Bk d) i
variable{x:X}{ws:List X}{k:Nat}
def tP(h:Dw C xs (λ σ=>ev x ρ σ) Q)(b:Dw C xs (λ σ=>cw ws ρ σ) λ vs=>vs.length=k/\∀v∈vs,Q v):Dw C xs (λ σ=>cw (x::ws) ρ σ) λ vs=>vs.length=k+1/\∀v∈vs,Q v:=
 .bind h λ v q=> .bind b λ vs a=> .ret _ {congrArg _ a.1,λ w c=>(a0.mp c).elim (λ e=>e▸q) (a.2 w)}
def MA:Dw C xs (λ σ=>cw [] ρ σ) λ vs=>vs.length=0/\∀v∈vs,Q v:=.ret [] ⟨rfl,nofun⟩
def My(b:k<=1000)(a:Dw C xs (λ σ=>cw ws ρ σ) λ vs=>vs.length=k/\∀v∈vs,Q v):Dw C xs (λ σ=>ev (.prim .lst ws) ρ σ) λ v=>∃l,v= .lst l/\l.length=k/\∀v∈l,Q v:=
 .bind a λ vs q=> .rt _ λ ζ ζ=>by
  show iY (gd _ _) _=_;rw [gd,if_pos (ag (b1 q.1) b)];rfl ⟨vs,rfl,q⟩
def IC{f}{y}{a}{R:List V->Prop}(g:∀d b,ev x ρ (PS d b xs)= .ret (.ok a (PS d b xs)))(i:Dw C xs (λ σ=>ev y ρ σ) λ v=>∃l,v= .lst l/\R l)(h:∀l,R l->Dw C xs (λ σ=>bp f [a,.lst l] σ) Q):Dw C xs (λ σ=>ev (.call f [x,y]) ρ σ) Q:=
 Dw.bind (Q:=λ v=>∃l,v= [a,.lst l]/\R l)
  (Dw.bind (.rt a g rfl) λ v q=>Dw.bind (Q:=λ v=>∃l,v= [.lst l]/\R l)
    (.bind i λ w q=>q.elim λ l q=> .ret [w] {l,by rw [q.1],q.2}) λ ws c=>c.elim λ l c=> .ret _ {l,by rw [q,c.1],c.2})
  λ v q=>by obtain ⟨l,e,q⟩:=q;subst e;exact h l q
end
section
def xK{d}{r}{is}(h:gm is){d0}(x:ly d0):Dw (C (d+5)) r (λ σ=>bp 683 [.ref 1,.lst (is.map kL),dD d0] σ) (TV false false 4 520):=by
 refine Cl.dw 0 _ [some _,some _,some _,none,none,none] rfl rfl (du (.ret _ rfl) ?_);intro v z;subst z
 refine {[some _,some _,some _,some _,none,none],rfl,B5 3 (λ j i=>∃s a b,i= [some _,some _,some _,some (.str s),a,b]/\Tw false true s (1+j) (2+170*j)) ⋯
  (Gi ⋯ (bI _ λ ζ ζ=>by kernel_rfl (Cl.up (rK 4 ⋯) (dg _ _)))) {_,none,none,rfl,i5 rfl} ?_ ?_}
 ·rintro j v i g ⟨s,a,b,e,p⟩
  subst e;refine {[some _,some _,some _,some _,some v,b],rfl,λ k y=>du (bI _ λ ζ ζ=>by kernel_rfl (MC h x)) ?_}
  rintro _ ⟨t,rfl,q⟩
  refine {[some _,some _,some _,some _,some v,some (.str t)],rfl,?_}
  have f (c) (L) (w:mn _ _ c 0 L=true) (o:L<=10):Dw (C (d+4)) r (λ σ=>ev (.prim _ [.loc 5,.lit _]) [some (.ref 1),some (.lst (is.map kL)),some (dD d0),some (.str s),some v,some (.str t)] σ) (TV _ true 1 170):=
   (lj (gf λ ζ ζ=>by kernel_rfl q) (kd c w) (ag (ee o _) ⋯)).mono (TV.mono (by simp) (ee o _))
  refine du (Q:=TV _ true _ _) (fm (l':=false) (m:=1) (M:=170) (gf λ ζ ζ=>by kernel_rfl p) (IC (a:=.ref 1) λ ζ ζ=>by kernel_rfl
   (My ⋯ (tP (f _ 3 rfl ⋯) (tP (f _ 5 rfl (by simp)) (tP ((lj (fm (n:=1) (L:=2) (kd _ (l:=false) rfl) (gf λ ζ ζ=>by kernel_rfl q) (by simp)) (kd _ (n:=0) (L:=5) rfl) (by simp)).mono (TV.mono (by simp) (eN rfl))) (tP (f _ 3 rfl ⋯) MA))))) λ l f=> ?_) (mj (n:=3) (c:=170) (iC g) rfl)) ?_
  ·exact (Cl.up (vA l (by refine f.1▸?_;decide)) (dg (0+2) _)).mono f.2
  ·rintro _ ⟨u,rfl,w⟩
   exact {[some _,some _,some _,some _,some v,some _],rfl,y _ {u,_,_,rfl,w.mono (bV (1+j+1)) (bV _)}}
 ·rintro j i g ⟨s,a,b,e,p⟩
  subst e;exact gb ((fm (gf λ ζ ζ=>by kernel_rfl p) (kd "}" (l:=false) (n:=0) (L:=1) rfl) (mj (n:=3) (c:=1) g rfl)).mono (TV.mono (ee g 1) (mj (n:=3) (c:=1) g rfl)))
end
section
variable{C:Cm}{xs:List O}{ρ:En}{n:Nat}{kn kb:Kn}{ys:List Y}{Q Q1:V->Prop}{x:X}
def Mw{R:Nat->Prop}(c:∀g,R g->g<=100)(h:Dw C xs (λ σ=>ev x ρ σ) λ v=>∃g:Nat,R g/\v= .int g):Dw C xs (λ σ=>i3 (.kr x) ρ σ) λ v=>∃g:Nat,R g/\v=cp 0 g:=
 .bind h λ v q=>by
  obtain ⟨g,b,e⟩:=q;subst e;have a:=ag (c g b) (by decide:100<=100000);exact Dw.on rfl (.g {ky a,sv.mpr (fZ a ⋯)} (.ret _ ⟨g,b,rfl⟩))
variable{c:X}{a b:List Y}
def jq(e:∀f d,ev c ρ (PS f d xs)= .ret (.ok (.bool true) (PS f d xs)))(k:Dw C xs (λ σ=>ao n a ρ σ (λ ρ σ=>ao n ys ρ σ kn kb) kb) Q):Dw C xs (λ σ=>ao n (.ifs c a b::ys) ρ σ kn kb) Q:=
 Dw.iff e k
def jo(e:∀f d,ev c ρ (PS f d xs)= .ret (.ok (.bool false) (PS f d xs)))(k:Dw C xs (λ σ=>ao n b ρ σ (λ ρ σ=>ao n ys ρ σ kn kb) kb) Q):Dw C xs (λ σ=>ao n (.ifs c a b::ys) ρ σ kn kb) Q:=
 Dw.iff e k
variable{ws:List X}{as:List V}
def f5{a:V}(h:Dw C xs (λ σ=>ev x ρ σ) λ v=>v=a)(d:Dw C xs (λ σ=>cw ws ρ σ) λ vs=>vs=as):Dw C xs (λ σ=>cw (x::ws) ρ σ) λ vs=>vs=a::as:=
 .bind h λ v q=> .bind d λ vs e=> .ret _ (cons_eq_cons' q e)
def nR:Dw C xs (λ σ=>cw [] ρ σ) λ vs=>vs= []:=.ret [] rfl
def oF{p:Pr}{a:V}(h:Dw C xs (λ σ=>cw ws ρ σ) λ vs=>vs=as)(e:∀σ,prim p σ as=some a):Dw C xs (λ σ=>ev (.prim p ws) ρ σ) λ v=>v=a:=
 .bind h λ vs q=>by
  subst q;exact .rt a λ ζ ζ=>by rw [e];rfl rfl
def iM{v:V}:Dw C xs (λ σ=>ev (.lit v) ρ σ) λ w=>w=v:=.ret v rfl
def IA{f:Addr}(h:Dw C xs (λ σ=>cw ws ρ σ) λ vs=>vs=as)(k:Dw C xs (λ σ=>bp f as σ) Q):Dw C xs (λ σ=>ev (.call f ws) ρ σ) Q:=
 .bind h λ vs q=>by subst q;exact k
theorem kinds_of:∀{vs:List V},(∀v∈vs,∃i,i<4/\v=kL i)->∃is:List Nat,vs=is.map kL/\is.length=vs.length/\∀i∈is,i<4
 | [],_=>{[],rfl,rfl,λ ζ h=>nomatch h}
 | v::vs,h=>(h v (.head _)).elim λ i e=>(kinds_of λ v g=>h v (.tail _ g)).elim λ is f=>⟨i::is,by simp_all,congrArg _ f.2.1,λ j d=>by
  cases d with
  | head=>exact e.1
  | tail _ d=>exact f.2.2 j d⟩
def D2(i)(h:i<4):mn false false (cG i) 0 32=true:=QA (P:=λ i=>mn false false (cG i) 0 32=true) h rfl rfl rfl rfl
def xJ{y:X}{t:Nat}{is:List Nat}(I:En->Prop)(h:gm is)(r:Dw C xs (λ σ=>ev y ρ σ) λ v=>v= .lst (is.map kL))(i:I (ll (bw (.loc t)) ρ))
 (k:∀j ρ,j<4->I ρ->∃ρ',dR (.loc t) (kL j) ρ=some ρ'/\I ρ'/\∀o d,ev (.loc t) ρ' (PS o d xs)= .ret (.ok (kL j) (PS o d xs))):
 Dw C xs (λ σ=>ev (.met .join (.lit (.str " . ")) [.comp (.prim .item [.loc t,.lit (.int 0)]) (.loc t) (.val y) []]) ρ σ) (TV false false 0 67):=by
 refine B2 ((B6 (Q:=TV false false 0 32) I (Gh r h.le) i ?_).mono λ v q=> ?_)
 ·intro v p ρ g;obtain ⟨j,l,e⟩:=i0.mp p;subst e;refine (k j ρ (h.2 j l) g).elim λ ρ' f=>{ρ',f.1,f.2.1,(oF (f5 (.rt _ f.2.2 rfl) (f5 iM nR)) λ σ=>rfl).mono λ v q=> ?_};subst q;exact .lit _ (D2 j (h.2 j l))
 ·obtain ⟨s,e,m,q⟩:=q;rw [cJ] at m;exact {s,e,m▸h.1,q}
end
section
variable{d:Nat}{xs:List O}
def qD{i:Nat}(h:i<4):Dw (C (d+1)) xs (λ σ=>bp 645 [.int i] σ) λ v=>v=kL i:=
 Cl.dw 0 _ [some _] rfl rfl (gb (.rt _ λ ζ ζ=>by
  match i,h with
  | 0,_=>kernel_rfl
  | 1,_=>kernel_rfl
  | 2,_=>kernel_rfl
  | 3,_=>kernel_rfl rfl))
def Pb{is:List Nat}(h:gm is){d0:Option Dt}(f:ly d0):Dw (C (d+1)) xs (λ σ=>bp 693 [.lst (is.map kL),dD d0] σ) (TV false false 0 142):=by
 refine Cl.dw 0 _ [some _,some _,none,none,none] rfl rfl (du (fm (kd _ (l:=false) (n:=0) (L:=5) rfl)
  (xJ (λ b=>∃o,b= [some _,some _,none,o,none]) h (.rt _ λ ζ ζ=>by kernel_rfl rfl) ⟨none,rfl⟩ ?_) (by simp)) ?_)
 ·rintro j b c ⟨o,e⟩
  subst e;exact {[some _,some _,none,some _,none],rfl,⟨_,rfl⟩,λ ζ ζ=>rfl}
 rintro _ ⟨s,rfl,p⟩
 refine {[some _,some _,some _,none,none],rfl,?_}
 have a:Dw (C d) xs (λ σ=>ev (.prim _ [.loc 2,.lit _]) [some (.lst (is.map kL)),some (dD d0),some (.str s),none,none] σ) _:=
  lj (gf λ ζ ζ=>by kernel_rfl p) (kd " : " (r:=true) (n:=0) (L:=3) rfl) (by simp)
 match d0,f,a with
 | none,_,_=>exact B1 λ ζ ζ=>by kernel_rfl ((gf λ ζ ζ=>by kernel_rfl p).mono (TV.mono (bV _) (by simp)))
 | some .cU,_,a=>exact nQ λ ζ ζ=>by kernel_rfl (gb ((fm (m:=0) (M:=67) a (B3 λ ζ ζ=>by kernel_rfl (.rt _ λ ζ ζ=>by kernel_rfl (.lit (l:=false) "verdict" rfl))) ⋯).mono (TV.mono (bV _) ⋯)))
 | some (.keys g),c,a=>
  refine nQ λ ζ ζ=>by kernel_rfl (gb ((fm a (B4 (λ ζ ζ=>rfl) (xJ (λ b=>∃o,b= [some (.lst (is.map kL)),some (dD (some (.keys g))),some (.str s),none,o]) c (.rt _ λ ζ ζ=>by kernel_rfl rfl) ⟨none,rfl⟩ ?_)) ⋯).mono (TV.mono (bV _) ⋯)))
  rintro j b c ⟨o,e⟩
  subst e;exact {[some _,some _,some _,none,some _],rfl,⟨_,rfl⟩,λ ζ ζ=>rfl}
end
section
def hj{d}{b}{ρ}{x y}(m:Nat)(h:0<m/\m<100000)(e:∀c a,cw [x,y] ρ (PS c a b)= .ret (.ok [.ref 1,.int m] (PS c a b))):Dw (C (d+1)) b (λ σ=>ev (.call 624 [x,y]) ρ σ) λ v=>∃g,g<m/\v= .int g:=bI _ e (rK m h)
def Iz{d}{p}:Dw (C (d+3)) p (λ σ=>bp 688 [.ref 1] σ) λ v=>∃is d0,v= .tup [.bool d0.isSome,.lst (is.map kL),dD d0]/\gm is/\ly d0:=by
 refine Cl.dw 0 _ [some _,none,none,none,none] rfl rfl (du (Q:=λ v=>∃b,v= .bool b) (jd (hj 2 ⋯ λ ζ ζ=>rfl) iM ?_) ?_)
 ·rintro _ _ ⟨g,_,rfl⟩ rfl
  exact {.bool _,λ σ=>rfl,_,rfl}
 rintro _ ⟨b,rfl⟩
 refine {[some _,some _,none,none,none],rfl,du (Q:=λ v=>∃is,v= .lst (is.map kL)/\gm is) ?_ ?_}
 ·refine Dw.bind (Mw (R:=λ g=>g=1∨g=2) λ g h=>by lia ?_) ?_
  ·refine jd iM (hj 2 ⋯ λ ζ ζ=>rfl) ?_
   rintro _ _ rfl ⟨g,j,rfl⟩
   exact {.int _,λ σ=>rfl,1+g,by lia,rfl}
  ·rintro _ ⟨g,j,rfl⟩
   refine Dw.kb (Q:=λ f=>f.length=(cp 0 g).length/\∀v∈f,∃i,i<4/\v=kL i) (xM (λ l=>∃o,l= [some _,some _,none,none,o]) _ ?_ _ ⟨none,rfl⟩) ?_
   ·rintro v a l ⟨o,rfl⟩
    refine {[some _,some _,none,none,some v],rfl,⟨_,rfl⟩,λ ζ=>rfl,Dw.bind (Q:=λ f=>∃i:Nat,i<4/\f= [.int i]) (.bind (hj 4 ⋯ λ ζ ζ=>rfl) ?_) ?_}
    ·rintro _ ⟨i,c,rfl⟩
     exact .ret _ ⟨i,c,rfl⟩
    ·rintro _ ⟨i,c,rfl⟩
     exact (Cl.up (qD (d:=0) c) (by lia)).mono λ v q=>⟨i,c,q⟩
   ·rintro f ⟨k,q⟩
    refine (kinds_of q).elim λ is e=> ?_;simp [qb] at k;exact .ret _ {is,e.1▸rfl,e.2.1▸k▸j,e.2.2}
 rintro _ ⟨is,rfl,c⟩
 refine {[some _,some _,some _,none,none],rfl,du iM ?_}
 rintro _ rfl
 refine {[some _,some _,some _,some _,none],rfl,?_};cases b with
 | false=>exact nQ λ ζ ζ=>by kernel_rfl (gb (.rt _ λ ζ ζ=>by kernel_rfl ⟨is,none,rfl,c,trivial⟩))
 | true=>
  refine jq λ ζ ζ=>by kernel_rfl (du (Q:=λ v=>∃d0,v=dD d0/\d0.isSome=true/\ly d0) (IA (f5 (.rt _ λ ζ ζ=>by kernel_rfl rfl) (f5 (oF (f5 iM (f5 (oF (f5 (bI [.int 0] λ ζ ζ=>by kernel_rfl (Cl.up (qD (d:=0) (by simp)) (by lia))) nR) λ ζ=>rfl)
   (f5 (oF (f5 (bI _ (λ ζ ζ=>rfl) (Cl.up (qD (d:=0) (Nat.lt_add_one 3)) (by lia))) (f5 (bI _ (λ ζ ζ=>rfl) (Cl.up (qD (d:=0) (by simp)) (by lia))) nR)) λ ζ=>rfl) nR))) λ ζ=>rfl) nR)) ((vA _ ⋯).mono ?_)) ?_)
  ·intro v a;cases a with
   | head=>exact {some .cU,rfl,rfl,trivial}
   | tail _ a=>
    cases a with
    | head=>exact {some (.keys [0]),rfl,rfl,.inl rfl,⋯}
    | tail _ a=>
     cases a with
     | head=>exact {some (.keys [3,1]),rfl,rfl,.inr rfl,⋯}
     | tail _ a=>exact nomatch a
  ·rintro _ ⟨d0,rfl,m,n⟩
   exact {[some _,some _,some _,some _,none],rfl,.rt _ λ ζ ζ=>by kernel_rfl {is,d0,by rw [m],c,n}}
end
noncomputable def Dj(g:Nat):List Str:=match g with
 | 1=> ["flags interval","flags timeout , interval","flags constant , odd","flags dynamic"]
 | 2=> ["timeout 2s","timeout 0","timeout x","timeout 90"]
 | 3=> ["size 5","size 4294967296","size -1","size 0x10"]
 | _=> ["auto-merge"]
def wF:∀g,g<5->(Dj g).all (λ s=>mn false false s 0 32)=true/\0<(Dj g).length/\(Dj g).length<100000:=by decide+kernel
def SQ{P:Nat->Prop}(a:P 0)(b:P 1)(c:P 2)(d:P 3)(e:P 4)(f:P 5){g}(h:g<6):P g:=by
 cases g with
 | zero=>exact a
 | succ g=>cases g with
  | zero=>exact b
  | succ g=>cases g with
   | zero=>exact c
   | succ g=>cases g with
    | zero=>exact d
    | succ g=>cases g with
     | zero=>exact e
     | succ g=>cases g with
      | zero=>exact f
      | succ g=>exact absurd h (Bi (dg _ _))
def CC(n L:Nat)(v:V):Prop:=∃s,v= .str s/\Tw false false s n L/\ec s.cps.toList≠[]
def ME{C}{g}{ρ}{x}{l}{n L m M f c}(i:Dw C g (λ σ=>ev x ρ σ) (TV l true n L))(t)(d:mn false false t m M=true)(o:ec t.cps.toList≠[])(h:L+M<=100000)(j:n+m<=f)(k:L+M<=c):Dw C g (λ σ=>ev (.prim (.bin .Add) [x,.lit (.str t)]) ρ σ) (CC f c):=
 jd i (.ret _ rfl) λ a b q r=>by
  obtain ⟨s,e,p⟩:=q;subst e r;refine {.str _,λ σ=>add_str (ag (kcj p.len (i5 d).len) h),ap s t,rfl,(p.vP (i5 d)).mono j k,(p.right rfl).elim λ u e=>(?_:ec (s.cps.toList++t.cps.toList)≠[])};rw [e,jJ];show ec (u++32::t.cps.toList)≠[];rw [jj];exact λ h=>o (List.append_eq_nil_iff.mp h).2
section
def IF{d:Nat}{z}{is}(h:gm is){d0}(F:ly d0):Dw (C (d+6)) z (λ σ=>bp 700 [.ref 1,.lst (is.map kL),dD d0] σ) (CC 21 3010):=by
 refine Cl.dw 0 _ [some _,some _,some (dD d0),none,none,none] rfl (rfl) (du (.ret _ rfl) ?_)
 rintro _ rfl
 refine {[some _,some _,some _,some _,none,none],rfl,B5 5 (λ j A=>∃s a b,A= [some _,some _,some _,some (.str s),a,b]/\Tw false true s (1+4*j) (2+600*j)) ⋯
  (Gi ⋯ (Cl.up (hj (d:=0) 6 ⋯ λ ζ ζ=>rfl) (dg (0+1) (d+4)))) {_,none,none,rfl,i5 rfl} ?_ ?_}
 ·rintro j v A o ⟨s,a,b,e,p⟩
  subst e;refine {[some _,some _,some (dD d0),some _,some v,b],rfl,λ k H=>du (Cl.up (hj (d:=0) 6 ⋯ λ ζ ζ=>rfl) (dg (0+1) (d+4))) ?_}
  rintro _ ⟨g,G,rfl⟩
  refine {[some (.ref 1),some (.lst _),some _,some _,some v,some _],rfl,?_}
  have f:∀g w,TV false false (1+4*j+4) (2+600*j+540) w->∃B,dR (.loc 3) w [some (.ref 1),some (.lst (is.map kL)),some (dD d0),some (.str s),some v,some (.int g)]=some B/\Dw (C (d+5)) z (λ σ=>ao 0 [] B σ (λ A σ=>ao 0 [.asg (.loc 3) (.prim (.bin .Add) [.loc 3,.call 664 [.loc 0]])] A σ k aM) aM) (CC 21 3010):=by
   rintro g _ ⟨t,rfl,q⟩
   refine {[some (.ref 1),some _,some _,some (.str t),some v,some _],rfl,(du (lj (gf (λ ζ ζ=>rfl) q) (bI [.ref 1] (λ ζ ζ=>rfl) (Cl.up (MB) (dg (0+3) (d+2)))) (mj (n:=5) (c:=545) (iC o) rfl)) ?_)}
   rintro _ ⟨u,rfl,w⟩
   exact {[some _,some (.lst _),some (dD d0),some (.str u),some v,some _],rfl,H _ {u,_,_,rfl,w.mono (bV _) (by rw [Nat.mul_succ,←Nat.add_assoc];exact ee (show 545<=600 by decide) _)}}
  have i (D) (r):Dw _ z _ _:=Cl.up (lh _ false false 0 32 (wF D r).1 (wF D r).2) (dg (0+2) (d+3))
  have y (g m M:Nat) (x:X) (I:m<=4) (E:M<=540) (J):Dw (C (d+5)) z (λ σ=>ev (.prim _ [.loc 3,x]) [some (.ref 1),some (.lst (is.map kL)),some (dD d0),some _,some v,some (.int g)] σ) (TV false false _ _):=
   (fm (l':=false) (gf (λ ζ ζ=>rfl) p) J (ag (ee E _) (mj (n:=5) (iC o) rfl))).mono (TV.mono (Nat.add_le_add_iff_left.mpr I) (Nat.add_le_add_iff_left.mpr E))
  refine SQ (P:=λ g=>Dw _ z (λ σ=>ao 0 _ [_,_,_,_,_,some (.int g)] σ _ _) _) ?_ ?_ ?_ ?_ ?_ ?_ G
  ·exact jq (λ ζ ζ=>rfl) (du (y 0 _ _ _ ⋯ ⋯ (bI _ (λ ζ ζ=>rfl) (Cl.up (Pb h F) (dg (0+1) (d+4))))) (f 0))
  ·exact jo (λ ζ ζ=>⋯) (jq (λ ζ ζ=>rfl) (du (y 1 _ _ _ ⋯ ⋯ (bI _ (λ ζ ζ=>rfl) (i 1 ⋯))) (f 1)))
  ·exact jo (λ ζ ζ=>rfl) (jq (λ ζ ζ=>⋯) (du (y 2 _ _ _ ⋯ ⋯ (bI _ (λ ζ ζ=>rfl) (i 2 ⋯))) (f 2)))
  ·exact jo (λ ζ ζ=>⋯) (jq (λ ζ ζ=>rfl) (du (y 3 _ _ _ ⋯ ⋯ (bI _ (λ ζ ζ=>rfl) (i 3 ⋯))) (f 3)))
  ·exact jo (λ ζ ζ=>rfl) (jq (λ ζ ζ=>rfl) (du (y 4 _ _ _ ⋯ ⋯ (bI _ (λ ζ ζ=>rfl) (i 4 ⋯))) (f 4)))
  ·exact jo (λ ζ ζ=>rfl) (jo (λ ζ ζ=>rfl) (du (Q:=TV false false _ (2+600*j+540)) ((fm (fm (m:=0) (M:=11) (gf (λ ζ ζ=>rfl) p) (kd _ (l:=false) rfl) (mj (n:=5) (c:=11) (iC o) rfl)) (bI _ (λ ζ ζ=>rfl) (xK h F)) (mj (n:=5) (c:=531) (iC o) rfl)).mono (TV.mono (bV _) (ee (show 531<=540 by decide) _))) (f 5)))
 ·rintro j A o ⟨s,a,b,e,p⟩
  subst e;exact gb (ME (gf (λ ζ ζ=>rfl) p) "} ;" (m:=0) (M:=3) rfl ⋯ (mj (n:=5) (c:=3) o rfl) (mj (n:=5) (c:=0) o rfl) (mj (n:=5) (c:=3) o rfl))
end
section
variable(Z:Px)(n:Nat)
def Ae:LP C 10 375 [.ref 0] .int f_:=Cl.lP λ ζ ζ ζ ζ ζ=>⋯
def KG:LP C 10 354 [.ref 0,.int 4294967295] .int pg:=Cl.lP λ ζ ζ ζ ζ ζ=>⋯
def Ac:LP C 7 535 [.ref 0] (λ i=> .str (cG i)) bY:=Cl.lP λ ζ ζ ζ ζ ζ=>⋯
def KW:LP C 6 523 [.ref 0,.tup [.str "constant",.str "dynamic",.str "interval",.str "timeout"],.str "unknown set flag"] (λ i=> .str (bG i)) dr:=Cl.lP λ ζ ζ ζ ζ ζ=>⋯
def wU:LP C 7 298 [.ref 0,.str "{"] (λ ζ=> .none) (aG 1):=Cl.lP λ ζ ζ ζ ζ ζ=>⋯
def Hn:LP C 7 298 [.ref 0,.str "}"] (λ ζ=> .none) (aG 2):=Cl.lP λ ζ ζ ζ ζ ζ=>⋯
def Hm:LP C 7 298 [.ref 0,.str "="] (λ ζ=> .none) (aG 5):=Cl.lP λ ζ ζ ζ ζ ζ=>⋯
def wR:LP C 7 298 [.ref 0,.str "."] (λ ζ=> .none) (aG 7):=Cl.lP λ ζ ζ ζ ζ ζ=>⋯
def wQ:LP C 7 298 [.ref 0,.str ":"] (λ ζ=> .none) (aG 8):=Cl.lP λ ζ ζ ζ ζ ζ=>⋯
def Ol:IP C 4 277 [.ref 0,.str "{"] 1:=Cl.iP λ ζ ζ ζ ζ ζ=>⋯
def tG:IP C 4 277 [.ref 0,.str "}"] 2:=Cl.iP λ ζ ζ ζ ζ ζ=>⋯
def tF:IP C 4 277 [.ref 0,.str ","] 6:=Cl.iP λ ζ ζ ζ ζ ζ=>⋯
def yH:IP C 4 277 [.ref 0,.str "."] 7:=Cl.iP λ ζ ζ ζ ζ ζ=>⋯
def uE:IP C 4 284 [.ref 0,.str "timeout"] 12:=Cl.iP λ ζ ζ ζ ζ ζ=>⋯
def uD:IP C 4 284 [.ref 0,.str "comment"] 16:=Cl.iP λ ζ ζ ζ ζ ζ=>⋯
def pw:IP C 4 284 [.ref 0,.str "verdict"] 17:=Cl.iP λ ζ ζ ζ ζ ζ=>⋯
def Dx:IP C 4 284 [.ref 0,.str "-"] 48:=Cl.iP λ ζ ζ ζ ζ ζ=>⋯
variable{d:Nat}
def Hc(i:Nat)(hi:i<4)(t:Tk)(r:List Tk)(h:t.k<nv)(ws:b2 t.k=true):C (d+12) 403 [.ref 0,kP i,.str (txt t.k)] (RS Z n (t::r)) (s8 (b7 Z) bg t.k t.row t.col n (r.map tv) (fH i t.k)):=by
 have z:=hB (f:=λ i k=>cond (b2 k) (bL lf T0 100 11 403 [.ref 0,kP i,.str (txt k)] (b7 Z n (aH k t.row t.col::r.map tv))) none) (g:=λ i k=>cond (b2 k) (some (s8 (b7 Z) bg k t.row t.col n (r.map tv) (fH i k))) none) ⋯ hi h;simp only [ws,cond_true] at z;exact Cl.dp 11 z
def Ad(i:Nat)(hi:i<4)(t:Tk)(r:List Tk)(h:t.k<nv)(ws:b2 t.k=true):C (d+12) 410 [.ref 0,kP i,.str (txt t.k)] (RS Z n (t::r)) (s8 (b7 Z) (λ p:Int×Int=> .int p.1) t.k t.row t.col n (r.map tv) (b8 i t.k)):=by
 have z:=hB (f:=λ i k=>cond (b2 k) (bL lf T0 100 11 410 [.ref 0,kP i,.str (txt k)] (b7 Z n (aH k t.row t.col::r.map tv))) none) (g:=λ i k=>cond (b2 k) (some (s8 (b7 Z) (λ p:Int×Int=> .int p.1) k t.row t.col n (r.map tv) (b8 i k))) none) ⋯ hi h;simp only [ws,cond_true] at z;exact Cl.dp 11 z
def Hb(t:Tk)(r:List Tk)(h:t.k<nv)(q:(t.k==28 || t.k==29)=false):C (d+8) 466 [.ref 0,.str "verdict",.bool true] (RS Z n (t::r)) (cond (t.k==26 || t.k==27) (.ok (eF (txt t.k,"")) (RS Z (n+1) r)) (.ex (.exc (b5 t.k "verdict") t.row t.col) (RS Z n (t::r)))):=by
 have z:=bj (f:=λ k=>cond (k==28 || k==29) none (bL lf T0 100 7 466 [.ref 0,.str "verdict",.bool true] (b7 Z n (aH k t.row t.col::r.map tv)))) (g:=λ k=>cond (k==28 || k==29) none (some (cond (k==26 || k==27) (.ok (eF (txt k,"")) (b7 Z (n+1) (r.map tv))) (.ex (.exc (b5 k "verdict") t.row t.col) (b7 Z n (aH k t.row t.col::r.map tv)))))) ⋯ h;simp only [q] at z;exact Cl.dp 7 z
def Dz(row col:Int)(t:Tk)(r:List Tk)(h:t.k<nv):C (d+8) 466 [.ref 0,.str "verdict",.bool true] (RS Z n ({28,row,col}::t::r)) (cond (eO t.k) (.ok (eF (txt 28,txt t.k)) (RS Z (n+2) r)) (.ex (.exc (b5 t.k "string") t.row t.col) (RS Z (n+1) (t::r)))):=
 Cl.dp 7 (bj (f:=λ k=>bL lf T0 100 7 466 _ (b7 Z n (aH 28 row col::aH k _ _::r.map tv))) (g:=λ k=>some (cond _ (.ok (eF (txt 28,txt k)) _) (.ex (.exc (b5 k _) _ _) (b7 Z _ (aH k _ _::r.map tv))))) ⋯ h)
def Dy(row col:Int)(t:Tk)(r:List Tk)(h:t.k<nv):C (d+8) 466 [.ref 0,.str "verdict",.bool true] (RS Z n ({29,row,col}::t::r)) (cond (eO t.k) (.ok (eF (txt 29,txt t.k)) (RS Z (n+2) r)) (.ex (.exc (b5 t.k "string") t.row t.col) (RS Z (n+1) (t::r)))):=
 Cl.dp 7 (bj (f:=λ k=>bL lf T0 100 7 466 _ (b7 Z n (aH 29 row col::aH k _ _::r.map tv))) (g:=λ k=>some (cond _ (.ok (eF (txt 29,txt k)) _) (.ex (.exc (b5 k _) _ _) (b7 Z _ (aH k _ _::r.map tv))))) ⋯ h)
def Rr(u t:Tk)(r:List Tk)(h:t.k<nv):C (d+8) 368 [.ref 0] (RS Z n (u::t::r)) (aw (RS Z) .str (one p9 (n+1) (t::r))):=by
 rw [QT];exact Cl.dp 7 (bj (f:=λ k=>bL lf T0 100 7 368 _ (b7 Z n (tv u::aH k _ _::r.map tv))) (g:=λ k=>some (xY _ _ k _ _ _ _ _)) ⋯ h)
def Ky:EP C 6 333 "type or flags or timeout or size or auto-merge or elements":=Cl.eP λ ζ ζ ζ ζ ζ=>⋯
def Kz:EP C 6 333 "newline or semicolon":=Cl.eP λ ζ ζ ζ ζ ζ=>⋯
def Ab:EP C 6 333 "value":=Cl.eP λ ζ ζ ζ ζ ζ=>⋯
end
def Sem.cv{b}{C}{t a}{r:R b}(e:a=t)(h:Sem C t r):Sem C a r:=e▸h
def W(N:Nat)(c:X)(b:List Y)(a:Kn)(m:Nat)(ρ:En)(σ:St):bX:=x9 (λ ρ σ=>ev c ρ σ) (λ ρ σ a d=>ao N b ρ σ a d) a m ρ σ
noncomputable def yC:Y->X
 | .gp c _=>c
 | _=> .stuck
noncomputable def yB:Y->List Y
 | .gp _ b=>b
 | .e3 _ _ b=>b
 | _=> []
noncomputable def yT:Y->Tg
 | .e3 t _ _=>t
 | _=> .loc 0
noncomputable def aY(f:Fn)(k:Nat):Y:=f.body.getD k .brk
section
variable{C:Cm}{N m:Nat}{c:X}{b:List Y}{kn:Kn}{ρ:En}{σ σ':St}{r:R V}
def fQ(h:Sem C (ev c ρ σ) (.ok (.bool true) σ'))(k:Sem C (ao N b ρ σ' (λ ρ σ=>W N c b kn m ρ σ) kn) r):Sem C (W N c b kn (m+1) ρ σ) r:=aC h k
def fR(h:Sem C (ev c ρ σ) (.ok (.bool false) σ'))(k:Sem C (kn ρ σ') r):Sem C (W N c b kn (m+1) ρ σ) r:=aC h k
end
section
variable{α:Type}{e:Nat}
def Cl.ex{t}{r:R α}(D)(h:mV (bL lf T0 100 D) t=some r):Sem (C (e+(D+1))) t r:=z0 (C:=C (e+(D+1))) (λ ζ ζ ζ ζ h=>Cl.dp D h) t h
variable{k:Nat}
def Cl.f3{F:Nat->Tree α}{G:Nat->R α}(D)(b:(List.range nv).map (λ k=>mV (bL lf T0 100 D) (F k))=(List.range nv).map (λ k=>some (G k)))(h:k<nv):Sem (C (e+(D+1))) (F k) (G k):=Cl.ex D (bj b h)
def Cl.zb{F:Nat->Nat->Tree α}{G:Nat->Nat->R α}{i}(D)(b:(List.range 4).map (λ i=>(List.range nv).map (λ k=>mV (bL lf T0 100 D) (F i k)))=(List.range 4).map (λ i=>(List.range nv).map (λ k=>some (G i k))))(hi:i<4)(h:k<nv):Sem (C (e+(D+1))) (F i k) (G i k):=Cl.ex D (hB b hi h)
variable{d:Nat}
def Ag(Z)(n)(t)(r):C (d+1) 263 [.ref 0] (RS Z n (t::r)) (.ok (tv t) (RS Z n (t::r))):=Ci
def jz(Z)(n)(t)(r):C (d+2) 270 [.ref 0] (RS Z n (t::r)) (.ok (tv t) (RS Z (n+1) r)):=Cl.dp 1 rfl
theorem wO(Z):∀(a) (n m),Wf a->a.length<m->Sem (C (d+3)) (W 0 (yC (aY dQ 0)) (yB (aY dQ 0)) aM m [some (.ref 0)] (RS Z n a)) (.ok .none (RS Z (aA aT n a).1 (aA aT n a).2))
 | [],_,_,w,_=>w.elim
 | t::r,n,0,_,h=>absurd h (gV _)
 | t::r,n,m+1,w,h=>by
  have c:Sem (C (d+3)) (ev _ _ (RS Z n (t::r))) (.ok _ (RS Z n (t::r))):=
   Cl.f3 (F:=λ k=>ev (yC (aY dQ 0)) [some (.ref 0)] (b7 Z n (aH k _ _::r.map tv))) (G:=λ k=> .ok (.bool (aT k)) (b7 Z n (aH k _ _::r.map tv))) 1 ⋯ w.nz
  have e:aA _ n (t::r)=cond _ (aA aT _ r) _:=rfl;refine e▸?_;cases q:aT t.k with
  | false=>rw [q] at c;exact fR c .rr
  | true=>
   rw [q] at c;exact fQ c (.cv rfl (wO Z r (n+1) m (w.tl λ z=>by have q:=z▸q;contradiction) (qu h)))
variable{rest:List Tk}
def uF(Z)(n)(w:Wf rest):C (d+4) 312 [.ref 0] (RS Z n rest) (.ok .none (RS Z (aA aT n rest).1 (aA aT n rest).2)):=
 Cl.b6 (rest.length+1) _ [some _] rfl rfl (.cv rfl (wO Z _ n _ w (j8 _)))
theorem wW(Z):∀(rest) (n m),Wf rest->rest.length<m->Sem (C (d+3)) (W 0 (yC (aY iv 0)) (yB (aY iv 0)) aM m [some (.ref 0)] (RS Z n rest)) (.ok .none (RS Z (aA cg n rest).1 (aA cg n rest).2))
 | [],_,_,w,_=>w.elim
 | t::r,n,0,_,h=>absurd h (gV _)
 | t::r,n,m+1,w,h=>by
  have c:Sem (C (d+3)) (ev _ _ (RS Z n (t::r))) (.ok _ (RS Z n (t::r))):=
   Cl.f3 (F:=λ k=>ev (yC (aY iv 0)) [some (.ref 0)] (b7 Z n (aH k _ _::r.map tv))) (G:=λ k=> .ok (.bool (cg k)) (b7 Z n (aH k _ _::r.map tv))) 1 ⋯ w.nz
  have e:aA _ n (t::r)=cond _ (aA cg _ r) _:=rfl;refine e▸?_;cases q:cg t.k with
  | false=>rw [q] at c;exact fR c .rr
  | true=>
   rw [q] at c;exact fQ c (.call rfl (jz Z n t r) (.cv rfl (wW Z r _ m (w.tl λ z=>by have q:=z▸q;contradiction) (qu h))))
def Am(Z)(n)(w:Wf rest):C (d+4) 495 [.ref 0] (RS Z n rest) (.ok .none (RS Z (aA cg n rest).1 (aA cg n rest).2)):=
 Cl.b6 (rest.length+1) _ [some _] rfl rfl (.cv rfl (wW Z _ n _ w (j8 _)))
def KC(Z)(n)(w:Wf rest):C (d+7) 502 [.ref 0] (RS Z n rest) (aw (RS Z) (λ ζ=> .none) (gN n rest)):=by
 match rest,w with
 | t::r,w=>
  refine Cl.b6 0 _ _ rfl ⋯ (dn (Cl.f3 (F:=λ k=>ev _ [some (.ref 0)] (b7 Z n (aH k _ _::r.map tv))) (G:=λ k=> .ok (.bool !(cg k || k==0 || k==2)) (b7 Z n (aH k t.row t.col::r.map tv))) 2 ⋯ w.nz) ?_);have e:gN n (t::r)=cond (cg t.k || t.k==0 || t.k==2) _ _:=rfl;refine e▸?_;cases cg t.k || t.k==0 || t.k==2 with
  | true=>exact .call rfl (Am Z n w) .rr
  | false=>exact .call rfl (Kz Z n t r w.nz) .rr
end
noncomputable def yI:Y->List Y
 | .ifs _ a _=>a
 | _=> []
section
variable{α:Type}{C:Cm}{f:Addr}{vs:List V}{σ:St}{S:Nat->List Tk->St}{n:Nat}{t:Tk}{r:List Tk}
def a5{F:α->V}{s:Nat->Except Str α}{a:α}(h:s t.k= .ok a)(c:C f vs σ (aw S F (one s n (t::r)))):C f vs σ (.ok (F a) (S (n+1) r)):=by
 rw [aJ h] at c;exact c
def a9{F:α->V}{s:Nat->Except Str α}{w:Str}(h:s t.k= .error w)(c:C f vs σ (aw S F (one s n (t::r)))):C f vs σ (.ex (.exc w t.row t.col) (S n (t::r))):=by
 rw [aK h] at c;exact c
end
section
variable{d:Nat}
def hV(Z:Px)(n:Nat)(t:Tk)(r:List Tk)(w:Str):C (d+2) 319 [.ref 0,.str w] (RS Z n (t::r)) (.ok (.exc w t.row t.col) (RS Z n (t::r))):=Cl.dp 1 rfl
def KS(Z:Px)(n i:Nat)(t:Tk)(r:List Tk)(hi:i<4):C (d+3) 389 [.ref 0,kP i] (RS Z n (t::r)) (.ok (.bool (i==1)) (RS Z n (t::r))):=
 Cl.dp 2 (bj (f:=λ i=>bL lf T0 100 2 389 [.ref 0,kP i] _) (g:=λ i=>some (.ok (.bool (i==1)) _)) rfl hi)
variable{i n:Nat}{a:Int}{t:Tk}{r:List Tk}{p:Int×Int}
def j0(v:b8 i t.k= .ok p):c3 i a n (t::r)=cond (decide (p.1<a)) (.bad "Range negative size" n (t::r)) (.ok p.1 (n+1) r):=by
 show (match b8 i t.k with | .error w=>_ | .ok p=>_)=_;rw [v];rfl
def gq{w:Str}(v:b8 i t.k= .error w):c3 i a n (t::r)= .bad w n (t::r):=by
 show (match b8 i t.k with | .error w=>_ | .ok p=>_)=_;rw [v]
def Al(Z:Px)(n i:Nat)(hi:i<4)(a:Int)(t:Tk)(r:List Tk)(h:t.k<nv):C (d+13) 417 [.ref 0,kP i,.int a] (RS Z n (t::r)) (aw (RS Z) .int (c3 i a n (t::r))):=by
 have c:Sem (C (d+12)) (ev _ [some _,some _,some _,some (tv t),none] (RS Z n (t::r))) (.ok _ (RS Z n (t::r))):=
  Cl.f3 (F:=λ k=>ev (.prim (.cmp .NotIn) [.prim .item [.loc 3,.lit (.int 0)],.prim .tup [.lit (.str "word"),.lit (.str "string")]]) [some (.ref 0),some (kP i),some (.int a),some (aH k _ _),none] (b7 Z n (aH k _ _::r.map tv))) (G:=λ k=> .ok (.bool !b2 k) (b7 Z n (aH k _ _::r.map tv))) 0 ⋯ h
 refine Cl.b6 0 _ [some _,some _,some _,none,none] rfl rfl (aV (.call rfl (Ag Z n t r) .rr) rfl ?_);cases b:b2 t.k with
 | false=>
  rw [gq (if_neg (by rw [b];exact cK))];rw [b] at c;exact dn c (.call rfl (Ab Z n t r h) .rr)
 | true=>
  rw [b] at c;refine d9 c ?_;have p:=Ad Z n (d:=d) i hi t r h b;cases v:b8 i t.k with
  | error w=>rw [v] at p;rw [gq v];exact .call rfl p .rr
  | ok q=>
   rw [v] at p;rw [j0 v];refine aV (v:=.int q.1) (ρ':= [some (.ref 0),some (kP i),some (.int a),some (tv t),some (.int q.1)]) (σ':=RS Z n (t::r)) (.call rfl p .rr) (rfl) (ak (decide (q.1<a)) .rr ?_);cases decide (q.1<a) with
   | true=>exact .call rfl (hV Z n t r _) .rr
   | false=>exact .call rfl (jz Z n t r) .rr
def wk{k:Nat}(hi:i<4)(b:k<nv)(v:b8 i k= .ok p):decide (p.1<0)=false:=by
 have z:=hB (f:=λ i k=>match b8 i k with | .ok p=>decide (p.1<0) | .error _=>false) (g:=λ i k=>false) ⋯ hi b;rw [v] at z;exact z
def yE(Z:Px)(n i:Nat)(hi:i<4)(t:Tk)(r:List Tk)(h:t.k<nv):C (d+14) 424 [.ref 0,kP i] (RS Z n (t::r)) (aw (RS Z) (λ p:Int×Int=> .int p.1) (one (b8 i) n (t::r))):=by
 have p:=Al Z n i hi 0 t r h (d:=d);cases v:b8 i t.k with
 | error w=>rw [gq v] at p;rw [aK v];exact hC.go 0 (.call rfl p .rr)
 | ok q=>rw [j0 v,wk hi h v] at p;rw [aJ v];exact hC.go 0 (.call rfl p .rr)
def Aq(Z:Px)(a:Int)(n:Nat)(t:Tk)(r:List Tk)(h:t.k<nv):Sem (C (d+14)) (ev (yC ((yI (aY jP 0)).headD .brk)) [some (.ref 0),some (kP 1),some (.int a)] (RS Z n (t::r))) (cond (t.k==9) (.ok (.bool true) (RS Z (n+1) r)) (.ok (.bool false) (RS Z n (t::r)))):=
 Cl.f3 (F:=λ k=>ev _ _ (b7 Z n (aH k _ _::r.map tv))) (G:=λ k=>cond (k==9) _ (.ok _ (b7 Z n (aH k _ _::r.map tv)))) 4 ⋯ h
theorem Ap(Z:Px)(N:Nat):∀(b:List Tk) (a:Int) (n m:Nat),Wf b->b.length<m->Sem (C (d+14)) (W N (yC ((yI (aY jP 0)).headD .brk)) (yB ((yI (aY jP 0)).headD .brk)) (λ ρ σ=>ao N (jP.body.drop 1) ρ σ aM aP) m [some (.ref 0),some (kP 1),some (.int a)] (RS Z n b)) (aw (RS Z) .int (i8 a n b))
 | [],_,_,_,w,_=>w.elim
 | _::_,_,_,0,_,h=>absurd h (gV _)
 | [t],a,n,m+1,w,h=>by
  have c:=Aq Z (d:=d) a n t [] w.nz;rw [show (t.k==9)=false from w.elim λ w=>by rw [w.1];rfl λ w=>w.2.2.elim] at c;exact fR c .rr
 | t::f::r,a,n,m+1,w,h=>by
  have c:=Aq Z (d:=d) a n t (f::r) w.nz;have e:i8 a n (t::f::r)=cond _ _ _:=rfl;rw [e];cases q:t.k==9 with
  | false=>rw [q] at c;exact fR c .rr
  | true=>
   rw [q] at c;have g:=w.tl λ z=>by rw [z] at q;cases q
   cases v:b8 1 _ with
   | error w=>exact fQ c (.call rfl (a9 v (yE Z _ 1 ⋯ f r g.nz)) .rr)
   | ok p=>
    exact fQ c (.call rfl (a5 v (yE Z _ 1 ⋯ f r g.nz)) (.cv rfl (Ap Z N r _ _ m (g.tl λ z=>by rw [z] at v;cases v) (xq (qu h)))))
def Fh(Z:Px)(n i:Nat)(hi:i<4)(a:Int){b:List Tk}(w:Wf b):C (d+15) 438 [.ref 0,kP i,.int a] (RS Z n b) (aw (RS Z) .int (gP i a n b)):=by
 match b,w with
 | t::r,w=>
  refine hC.go (r.length+2) (.call rfl (KS Z n i t r hi) ?_);have e:gP i a n _=cond _ _ (.ok a n (t::r)):=rfl;rw [e];cases q:i==1 with
  | false=>exact .rr
  | true=>
   have q:=gU q;subst q;exact .cv rfl (Ap Z _ _ a n _ w (j8 _))
end
section
noncomputable def star(i k:Nat):Bool:=i==2 && (k==45 || k==46 || k==68)
noncomputable def dbl(x:Except Str (Int×Int)):Except Str (Int×Int):=match x with
 | .ok p=> .ok (p.1,p.1)
 | .error w=> .error w
variable{i k:Nat}
def Lv(hi:i<4)(a:k<nv)(h:ir i k=true):fH i k=dbl (b8 i k):=by
 have z:=hB (f:=λ i k=>cond (ir i k) (fH i k) (.error "")) (g:=λ i k=>cond (ir i k) (dbl (b8 i k)) (.error "")) ⋯ hi a;rw [h] at z;exact z
def Lu(hi:i<4)(a:k<nv)(h:b2 k=true)(g:(eO k || star i k)=false):ir i k=true/\star i k=false:=by
 have z:=hB (f:=λ i k=> !(b2 k && !(eO k || star i k)) || ir i k && !star i k) (g:=λ i k=>true) ⋯ hi a;simp only [h,g,Bool.not_false,nc,Bool.not_true,Bool.false_or,qq,Bool.not_eq_true'] at z;exact z
def uO(hi:i<4)(a:k<nv):ir i k=(isStr k && !star i k):=hB (g:=λ i k=>isStr k && !star i k) rfl hi a
variable{n:Nat}{t:Tk}{r:List Tk}
def iz{w}(v:fH i t.k= .error w):gO i n (t::r)= .bad w n (t::r):=by
 unfold gO;rw [aK v];rfl
def se{p}(v:fH i t.k= .ok p):gO i n (t::r)=cond (ir i t.k && ((a7 r).k==48 && isStr (a7 r.tail).k)) ((c3 i p.1 (n+2) r.tail).bind λ v n r=> .ok (p.1,v) n r) (.ok p (n+1) r):=by
 unfold gO;simp [aJ v];rfl
section
variable{d:Nat}
def Hq(Z)(n)(t a)(r):C (d+1) 263 [.ref 0,.int 1] (RS Z n (t::a::r)) (.ok (tv a) (RS Z n (t::a::r))):=hC.val λ g=>by
 refine (g _ (.head _)).elim λ e b=> ?_;have c:=jr (by rw [←A6,e];rfl:Z.toks.drop (n+1)=tv a::r.map tv);have f:=(di.mp c).1;exact Cl.b6 0 _ [some _,some _,none] rfl rfl (d9 (ah (ai .rr (ai (ah .rr (fb (lb b))) .rr)) (D9 (sv.mpr f))) (fG (ah .rr (dj b c))))
def KD(Z:Px)(n i:Nat)(hi:i<4){a:List Tk}(w:Wf a):C (d+15) 431 [.ref 0,kP i] (RS Z n a) (aw (RS Z) bg (gO i n a)):=by
 match a,w with
 | t::r,w=>
 have h:=w.nz
 have D:Sem (C (d+14)) (ev _ [some _,some _,some (tv t),none,none,none] (RS Z n (t::r))) (.ok _ (RS Z n (t::r))):=
  Cl.f3 (F:=λ k=>ev (.prim (.cmp .NotIn) [.prim .item [.loc 2,.lit (.int 0)],.prim .tup [.lit (.str "word"),.lit (.str "string")]]) [some (.ref 0),some (kP i),some (aH k _ _),none,none,none] (b7 Z n (aH k _ _::r.map tv))) (G:=λ k=> .ok (.bool !b2 k) (b7 Z n (aH k _ _::r.map tv))) 0 ⋯ h
 refine Cl.b6 0 kz [some (.ref 0),some (kP i),none,none,none,none] rfl (rfl) (aV (v:=tv t) (ρ':= [some (.ref 0),some (kP i),some (tv t),none,none,none]) (σ':=RS Z n (t::r)) (.call rfl (Ag Z n t r) .rr) ⋯ ?_);cases j:b2 t.k with
 | false=>
  rw [iz (if_neg (by rw [j];exact cK))];rw [j] at D;exact dn D (.call ⋯ (Ab Z n t r h) (.ret ⋯))
 | true=>
 rw [j] at D;refine d9 D ?_
 refine aV (v:=.bool (star i t.k)) (ρ':= [some (.ref 0),some (kP i),some (tv t),some (.bool (star i t.k)),none,none]) (σ':=RS Z n (t::r))
  (Cl.zb (F:=λ i k=>ev _ [some (.ref 0),some (kP i),some (aH k t.row t.col),none,none,none] (b7 Z n (aH k t.row t.col::r.map tv))) (G:=λ i k=> .ok (.bool (star i k)) (b7 Z n (aH k t.row t.col::r.map tv))) 2 ⋯ hi h) ⋯ ?_
 have E:Sem (C (d+14)) (ev _ [some (.ref 0),some (kP i),some (tv t),some (.bool (star i t.k)),none,none] (RS Z n (t::r))) (.ok (.bool (eO t.k || star i t.k)) (RS Z n (t::r))):=
  Cl.zb (F:=λ i k=>ev (.ba false [.prim (.cmp .Eq) [.prim .item [.loc 2,.lit (.int 0)],.lit (.str "word")],.loc 3]) [some (.ref 0),some (kP i),some (aH k t.row t.col),some (.bool (star i k)),none,none] (b7 Z n (aH k t.row t.col::r.map tv))) (G:=λ i k=> .ok (.bool (eO k || star i k)) (b7 Z n (aH k t.row t.col::r.map tv))) 0 ⋯ hi h
 have f:∀(x:Option V) (p:Int×Int),fH i t.k= .ok p->Sem (C (d+14)) (ao 0 (kz.body.drop 4) _ (RS Z n (t::r)) aM aP) (aw (RS Z) bg (gO i n (t::r))):=λ x p v=>by
  have N:t.k≠0:=λ z=>by rw [z] at j;cases j
  have I:=w.tl N;rw [se v,uO hi h];refine fV (v:=tv t) (σ':=RS Z (n+1) r) (.call ⋯ (jz Z n t r) (.ret ⋯)) ?_
  have e:Sem (C (d+14)) (ev _ [some (.ref 0),some (kP i),some (tv t),some (.bool (star i t.k)),some (bg p),x] (RS Z (n+1) r)) _:=
   Cl.f3 (F:=λ k=>ev (.prim (.cmp .Eq) [.prim .item [.loc 2,.lit (.int 0)],.lit (.str "string")]) [some (.ref 0),some (kP i),some (aH k t.row t.col),some (.bool (star i t.k)),some (bg p),x] (RS Z (n+1) r)) (G:=λ k=> .ok (.bool (isStr k)) (RS Z (n+1) r)) 0 ⋯ h
  cases L:isStr t.k with
  | false=>rw [L] at e;exact d9 (d_ e) (.ret ⋯)
  | true=>
  rw [L] at e;have s:Sem (C (d+14)) (ev (.prim .not [.loc 3]) [some (.ref 0),some (kP i),some (tv t),some (.bool (star i t.k)),some (bg p),x] (RS Z (n+1) r)) (.ok (.bool !(star i t.k)) (RS Z (n+1) r)):=.ret ⋯;cases J:star i t.k with
  | true=>rw [J] at e s;exact d9 (bQ e (d_ s)) (.ret ⋯)
  | false=>
  rw [J] at e s
  match r,I with
  | b::l,I=>
  have A:Sem (C (d+14)) (ev (.pF 284 "is_word" (.loc 0) [.lit (.str "-")]) [some (.ref 0),some (kP i),some (tv t),some (.bool false),some (bg p),x] (RS Z (n+1) (b::l))) (.ok (.bool (b.k==48)) (RS Z (n+1) (b::l))):=.call ⋯ (Dx Z (n+1) b l I.nz rfl) (.ret ⋯);show Sem _ _ (aw _ _ (cond (true && ((b.k==48) && isStr (a7 l).k)) ((c3 i p.1 (n+2) l).bind λ v n r=> .ok (p.1,v) n r) (.ok p (n+1) (b::l))));cases B:b.k==48 with
  | false=>rw [B] at A;exact d9 (bQ e (bQ s (d_ A))) (.ret ⋯)
  | true=>
  rw [B] at A
  match l,I.tl (λ z=>by rw [z] at B;cases B) with
  | c::o,M=>
  refine ak (isStr c.k) (bQ e (bQ s (bQ A (.call ⋯ (Hq Z (n+1) b c o) (Cl.f3 (F:=λ k=>(ev _ _ (RS Z (n+1) (b::c::o))).nx (.ok (aH k c.row c.col) _)) (G:=λ k=> .ok (.bool (isStr k)) (RS Z (n+1) (b::c::o))) 0 ⋯ M.nz))))) ?_;show Sem _ _ (aw _ _ (cond (true && (true && isStr c.k)) _ _));cases isStr c.k with
  | false=>exact .ret ⋯
  | true=>
   have y:=Al Z (n+2) i hi p.1 c o M.nz (d:=d+1);refine .call ⋯ (jz Z (n+1) b (c::o)) ?_
   revert y
   cases c3 i p.1 (n+2) (c::o) with
   | ok u m r=>exact λ y=> .call ⋯ y (.ret ⋯)
   | bad u m r=>exact λ y=> .call ⋯ y (.ret ⋯)
 cases g:eO t.k || star i t.k with
 | true=>
  rw [g] at E;have p:=Hc Z n (d:=d+2) i hi t r h j;refine dn E ?_;cases v:fH i t.k with
  | error w=>rw [v] at p;rw [iz v];exact .call ⋯ p (.ret ⋯)
  | ok q=>
   rw [v] at p;exact .call ⋯ p (.cv ⋯ (f none q v))
 | false=>
  rw [g] at E;have lo:=Lu hi h j g;have H:=Lv hi h lo.1;have p:=Ad Z n (d:=d+2) i hi t r h j;refine dn E ?_;cases v:b8 i t.k with
  | error w=>rw [v] at p H;rw [iz H];exact .call ⋯ p (.ret ⋯)
  | ok q=>
   rw [v] at p H;exact .call ⋯ p (.cv ⋯ (f (some (.int q.1)) (q.1,q.1) H))
end
end
def Fo(N:Nat)(t:Tg)(b:List Y)(a:Kn)(l:List V)(ρ:En)(σ:St):bX:=forL t (λ ρ σ a c=>ao N b ρ σ a c) a l ρ σ
section
variable{C:Cm}{n:Nat}{ρ ρ':En}{σ σ':St}{kn kb:Kn}{r:R V}{ys b:List Y}
def mR{t}{a}{l}(h:Sem C (i3 a ρ σ) (.ok l σ))(k:Sem C (Fo n t b (λ ρ σ=>ao n ys ρ σ kn kb) l ρ σ) r):Sem C (ao n (.e3 t a b::ys) ρ σ kn kb) r:=aC h k
def kI{x}{v}{l}(h:Sem C (ev x ρ σ) (.ok v σ))(e:itemsOf v=some l)(q:l.length<=1000000):Sem C (i3 (.val x) ρ σ) (.ok l σ):=aC h (aX e (gj q .rr))
def n6{t}(k:Sem C (kn ρ σ) r):Sem C (Fo n t b kn [] ρ σ) r:=k
def oJ{t}{v}{l}(e:dR t v ρ=some ρ')(k:Sem C (ao n b ρ' σ (λ ρ σ=>Fo n t b kn l ρ σ) kn) r):Sem C (Fo n t b kn (v::l) ρ σ) r:=aX e k
def zS{i}{l}(e:ay ρ i=some (.lst l))(q:l.length<=1000001):Sem C (ev (.prim (.cmp .Gt) [.mY i,.lit (.int 0)]) ρ σ) (.ok (.bool !l.isEmpty) σ):=by
 refine ah (ai (aX e (gj q .rr)) .rr) ?_;cases l with
 | nil=>kernel_rfl
 | cons a l=>
  show some (V.bool (decide _))=_;rw [jI (by exact Int.ofNat_succ_pos l.length)];rfl
def gM{i}{x}{l}{v}(e:ay ρ i=some (.lst l))(h:Sem C (ev x ρ σ) (.ok v σ'))(q:l.length<=1000000)(k:Sem C (ao n ys (ρ.set i (some (.lst (l++ [v])))) σ' kn kb) r):Sem C (ao n (.dy i x::ys) ρ σ kn kb) r:=aX e (aC h (gj q k))
def oi{i}{x}{l}{u}(e:ay ρ i=some (.lst l))(h:Sem C (ev x ρ σ) (.ex u σ')):Sem C (ao n (.dy i x::ys) ρ σ kn kb) (.ex u σ'):=aX e (aC h rfl)
def GP{i}{x}{l}{u}(e:ay ρ i=some (.lst l))(h:Sem C (ev x ρ σ) (.ex u σ')):Sem C (ao n (.pz i x::ys) ρ σ kn kb) (.ex u σ'):=aX e (aC h rfl)
def J4{i}{x}{l w}(e:ay ρ i=some (.lst l))(h:Sem C (ev x ρ σ) (.ok (.tup w) σ'))(q:l.length+w.length<=1000000)(k:Sem C (ao n ys (ρ.set i (some (.lst (l++w)))) σ' kn kb) r):Sem C (ao n (.pz i x::ys) ρ σ kn kb) r:=aX e (aC h (gj q k))
def gL{i}{l}(e:ay ρ i=some (.lst l))(q:l.length<=1000001):Sem C (ao n (.ret (.iR i)::ys) ρ σ kn kb) (.ok (.tup l) σ):=aX e (gj q .rr)
end
def fP{b c}{S}{f}{g:b->c}(x):aw S f (x.bind λ a n r=> .ok (g a) n r)=aw S (λ a=>f (g a)) x:=by cases x<;>rfl
def qY{b:Type}(l)(a:b):(l++ [a]).isEmpty=false:=by simp
section
def K0(Z:Px)(N:Nat)(K:V){d:Nat}:∀(is:List Nat) (c:List (Int×Int)) (E h k:Option V) (n:Nat) (b:List Tk),(∀i∈is,i<4)->Wf b->c.length+is.length<=200000->
 Sem (C (d+16)) (Fo N (yT (aY eI 1)) (yB (aY eI 1)) (λ ρ σ=>ao N (eI.body.drop 2) ρ σ aM aP) (is.map kP) [some (.ref 0),some K,some (.lst (c.map bg)),E,h,k] (RS Z n b)) (aw (RS Z) (λ l=>V.tup ((c++l).map bg)) (bZ eb c.isEmpty is n b))
 :=by
 intro J
 induction J with
 | nil=>
  intro c E h k n b D w f
  exact by
   show Sem _ _ (.ok (V.tup _) _);rw [ng];exact n6 (gL rfl (by rw [cJ];exact ag f ⋯))
 | cons i is x=>
  intro c E h k n b D w f
  exact by
   simp only [dx] at f;refine oJ (ρ':= [some (.ref 0),some K,some (.lst (c.map bg)),some (kP i),h,k]) rfl ?_;have o:=zS (C:=C (d+16)) (ρ:= [some (.ref 0),some K,some (.lst (c.map bg)),some (kP i),h,k]) (σ:=RS Z n b) (i:=2) rfl (by rw [cJ];exact ag (ag (ed ..) f) ⋯)
   have s:∀(q:Int×Int) (n:Nat) (b:List Tk),Wf _->Sem _ (ao N ((yB (aY eI 1)).drop 3) [some _,some K,some _,some _,some _,some _] (RS Z n b) (λ ρ σ=>Fo N _ _ _ _ ρ σ) λ ρ σ=>ao N (eI.body.drop 2) ρ σ aM aP)
    (aw _ (λ l=>V.tup ((c++l).map _)) _):=λ q n b w=>by
    have x:=x (c++ [q]) (some (kP i)) (some (.int q.1)) (some (.int q.2)) n b (λ j m=>D j (.tail _ m)) w (by rw [hH];exact ag (b1 (kU ..)) f);rw [qY,qo] at x;rw [fP];simp only [jJ] at x;exact gM (l:=c.map _) rfl .rr (by rw [cJ];exact ag (ag (ed ..) f) ⋯) x
   have e:∀(n:Nat) (b:List Tk),Wf _->Sem (C (d+16)) (ao N ((yB (aY eI 1)).drop 1) [some (.ref 0),some K,some (.lst (c.map bg)),some (kP i),h,k] (RS Z n b) _ _)
    (aw _ _ ((eb i n _).bind _)):=λ n b w=>by
    have B:=KD Z n i (D i (.head _)) w (d:=d+1);have I:=oN (i:=i) (n:=n) w;unfold eb
    revert B I
    cases gO i n b with
    | bad y m r=>exact λ B ζ=> .call rfl B .rr
    | ok p m r=>
     refine λ B g=>aV (v:=bg p) (σ':=RS Z m r) (.call rfl B .rr) (rfl) (ak (p.1==p.2) .rr ?_);show Sem _ _ (aw _ _ (Rs.bind (cond _ _ _) _));cases p.1==p.2 with
     | false=>exact s p m r g.wf
     | true=>
      have A:=Fh Z m i (D i (.head _)) p.1 g.wf (d:=d+1);have H:=mU (i:=i) (a:=p.1) (n:=m) g.wf
      revert A H
      cases gP i p.1 m r with
      | bad y m r=>exact λ A ζ=> .call rfl A .rr
      | ok a m r=>exact λ A g=> .call rfl A (.cv rfl (s (a,a) m r g.wf))
   rw [show (c.map _).isEmpty=c.isEmpty by cases c<;>rfl] at o;cases F:c.isEmpty with
   | true=>rw [F] at o;exact d9 o (e n _ w)
   | false=>
    rw [F] at o;refine dn o ?_
    match b,w with
    | t::r,w=>
     have G:=wR Z n t r w.nz (d:=d+9);show Sem _ _ (aw _ _ (Rs.bind (one (aG 7) n _) _));cases v:aG 7 t.k with
     | error y=>rw [aK v];exact .call rfl (a9 v G) (.ret (rfl))
     | ok u=>rw [aJ v];exact .call ⋯ (a5 v G) (.cv ⋯ (e (n+1) r (w.tl λ z=>absurd (bM v) (by rw [z];decide))))
def Ox(Z)(n)(is)(hi:∀i∈is,i<4)(b:is.length<=200000){a}(w:Wf a){d}:C (d+17) 459 [.ref 0,.tup (is.map kP)] (RS Z n a) (aw (RS Z) (λ l=>V.tup (l.map bg)) (bZ eb true is n a)):=Cl.b6 0 _ [some _,some _,none,none,none,none] rfl rfl (.cv rfl (mR (kI .rr rfl (jD (k:=0) b rfl)) (K0 Z 0 _ is [] _ _ _ n _ hi w (by simp_all))))
end
def Mt(N:Nat):Kn:=λ a b=>ao N (fh.body.drop 3) a b aM aP
def RP(N:Nat)(l:List V)(ρ:En)(σ:St):bX:=Fo N (yT (aY fh 2)) (yB (aY fh 2)) (Mt N) l ρ σ
noncomputable def pO(D:V)(a:List Int)(x:Option V):En:= [some (.ref 0),some D,some (.bool true),none,some (.lst (a.map .int)),x]
noncomputable def zi(a:List Int)(l:List Int):V:=.tup ((a++l).map .int)
section
def Ob(Z)(n i)(hi:i<4)(D)(e){b}(w:Wf b){d}:Sem (C (d+15)) (ev (.call 438 [.loc 0,.loc 5,.call 424 [.loc 0,.loc 5]]) (pO D e (some (kP i))) (RS Z n b)) (aw (RS Z) .int (jX i n b)):=by
 match b,w with
 | h::f,w=>
 have p:=yE Z n i hi h f w.nz (d:=d+1);unfold jX;cases v:b8 i _ with
 | error y=>rw [aK v] at p ⊢;exact .call rfl p .rr
 | ok q=>
  rw [aJ v] at p ⊢;have c:=Fh Z (n+1) i hi q.1 (w.tl λ z=>by rw [z] at v;contradiction) (d:=d);refine .call rfl p ?_;show Sem _ _ (aw _ _ (gP i q.1 _ f))
  revert c
  cases gP i q.1 _ f with
  | bad y m g=>exact λ c=> .call rfl c .rr
  | ok a m g=>exact λ c=> .call rfl c .rr
theorem Ao(Z)(N)(D){d}:∀(is) (b) (x) (n) (c),(∀i∈is,i<4)->Wf c->b.length+is.length<=200000->
 Sem (C (d+15)) (RP N (is.map kP) (pO D b x) (RS Z n c)) (aw (RS Z) (zi b) (bZ jX b.isEmpty is n c))
 | [],b,x,n,c,p,w,k=>by
  refine (?_:Sem _ _ (.ok (V.tup _) _));rw [ng];exact n6 (gL rfl (by rw [cJ];exact ag k ⋯))
 | i::is,b,x,n,c,p,w,k=>by
  refine oJ (ρ':=pO D b _) rfl ?_;have e:=zS (C:=C (d+15)) (ρ:=pO D b (some (kP i))) (σ:=RS Z n c) (i:=4) rfl (jD k rfl);rw [show (b.map _).isEmpty=b.isEmpty by cases b<;>rfl] at e
  have f:∀(n) (c),Wf _->Sem _ (ao N ((yB (aY fh 2)).drop 2) _ _ _ (Mt N))
   (aw _ _ ((jX i n _).bind _)):=λ n c w=>by
   have o:=Ob Z n i (p i (.head _)) D b w (d:=d);have A:=pf (i:=i) (n:=n) w
   revert o A
   cases jX i n c with
   | bad y m r=>exact λ o ζ=>oi rfl o
   | ok a m r=>
    intro o g;have q:=Ao Z N D is (b++ [a]) (some (kP i)) m r (λ j m=>p j (.tail _ m)) g.wf (by rw [hH];exact ag (b1 (kU ..)) k) (d:=d);rw [qY] at q;refine (?_:Sem _ _ (aw _ _ ((bZ jX _ is m r).bind _)));rw [fP];refine gM rfl o (jD k rfl) ?_;rw [←(by unfold pO;rw [qo];rfl:pO D (b++ [a]) _=(pO D b _).set 4 _)];rw [(by funext l;unfold zi;rw [jJ];rfl:(λ l=>zi b (a::l))=zi (b++ [a]))];exact q
  refine d9 (by
   cases h:b.isEmpty with
   | true=>rw [h] at e;exact d_ e
   | false=>rw [h] at e;exact bQ e .rr) ?_
  cases h:b.isEmpty with
  | true=>rw [h] at e;exact d9 e (f n _ w)
  | false=>
   rw [h] at e;refine dn e ?_
   match c,w with
   | t::r,w=>
    have s:=wR Z n t r w.nz (d:=d+8);refine (?_:Sem _ _ (aw _ _ (Rs.bind (one _ n _) _)));cases v:aG 7 t.k with
    | error y=>rw [aK v];exact .call rfl (a9 v s) .rr
    | ok u=>rw [aJ v];exact .call rfl (a5 v s) (.cv rfl (f _ r (w.tl λ z=>absurd (bM v) (by rw [z];decide))))
def Ow(Z)(n)(d0)(l:∀is,d0= .keys is->(∀i∈is,i<4)/\is.length<=200000){a}(w:Wf a){d}:C (d+16) 466 [.ref 0,(match d0 with | .cU=> .str "verdict" | .keys is=> .tup (is.map kP)),.bool true] (RS Z n a) (aw (RS Z) id (eY d0 n a)):=by
 cases d0 with
 | keys is=>
  have f:=l is rfl;refine Cl.b6 0 _ [some _,some _,some _,none,none,none] rfl rfl ?_;have e:aw _ id (eY (.keys is) n _)=aw (RS Z) _ (bZ jX _ is n a):=fP _;simp [e];exact .cv rfl (mR (kI .rr rfl (by rw [cJ];exact ag f.2 ⋯)) (Ao Z 0 _ is [] _ n _ f.1 w (by simp_all)))
 | cU=>
  have e:aw _ id (eY .cU n _)=aw (RS Z) eF (oj n a):=fP _;simp [e]
  match a,w with
  | ⟨k,c,b⟩::r,w=>
  cases q:k==28 || k==29 with
  | false=>
   have z:=Hb Z n (d:=d+8) _ r w.nz q;have e:oj n (⟨k,c,b⟩::r)=cond (k==26 || k==27) _ (cond (k==28 || k==29) _ _):=rfl;simp [e,q]
   revert z
   cases k==26 || k==27<;>exact id
  | true=>
   have j:=w.tl λ z=>by simp_all
   cases r with
   | nil=>contradiction
   | cons g h=>
   rcases Bool.or_eq_true_iff.mp q with q | q
   ·have q:=gU q;subst q;have z:=Dz Z n (d:=d+8) c b g h j.nz;refine (?_:C _ _ _ _ (aw _ _ (cond (eO g.k) _ _)))
    revert z
    cases eO _<;>exact id
   ·have q:=gU q;subst q;have z:=Dy Z n (d:=d+8) c b g h j.nz;refine (?_:C _ _ _ _ (aw _ _ (cond (eO g.k) _ _)))
    revert z
    cases eO _<;>exact id
end
noncomputable def kD:Option Dt->V
 | none=> .none
 | some .cU=> .str "verdict"
 | some (.keys a)=> .tup (a.map kP)
structure gG(is:List Nat)(d:Option Dt):Prop where
 ki:∀i∈is,i<4
 kl:is.length<=200000
 da:∀js,d=some (.keys js)->(∀i∈js,i<4)/\js.length<=200000
def litE(is:List Nat)(d:Option Dt)(b:V)(c:Int)(a:Str):En:= [some (.ref 0),some (.tup (is.map kP)),some (kD d),some (.bool true),some b,some (.int c),some (.str a)]
def yS(is:List Nat)(d:Option Dt)(b:V)(c:Int)(a:Str)(k:Nat)(σ:St):bX:=ao 0 (k_.body.drop k) (litE is d b c a) σ aM aP
def jZ(d:Option Dt)(b:V)(c:Int)(a:Str)(n:Nat)(r:List Tk):Rs V:=match d with
 | none=> .ok (.tup [b,.none,.int c,.str a]) n r
 | some d=>(one (aG 8) n r).bind λ ζ n r=>(eY d n r).bind λ v n r=> .ok (.tup [b,v,.int c,.str a]) n r
section
variable{rest:List Tk}{d:Nat}
def Ai(Z)(n)(is)(d0)(h:gG is d0)(b)(i)(f)(w:Wf rest):Sem (C (d+17)) (yS is d0 b i f 5 (RS Z n rest)) (aw (RS Z) id (jZ d0 b i f n rest)):=by
 match d0,h with
 | none,h=>exact .rr
 | some d0,h=>
  match rest,w with
  | t::r,w=>
  have g:=wQ Z n t r w.nz (d:=d+10)
  exact (by
   intro q e;subst e
   have c:∀u,aG 8 t.k= .ok u->C (d+17) 466 [.ref 0,kD (some d0),.bool _] _ (aw _ id (eY d0 _ r)):=λ u v=>by
    have z:=Ow Z (n+1) d0 (λ j e=>h.da j (Option.some_inj.mpr e)) ((λ u v=>w.tl λ z=>absurd (bM v) (by rw [z];decide)) u v) (d:=d+1);cases d0<;>exact z
   cases v:aG 8 t.k with
   | error y=>refine aK v▸?_;cases d0<;>exact .call rfl (a9 v g) .rr
   | ok u=>
    have c:=c u v;rw [aJ v];show Sem _ _ (aw _ _ (Rs.bind (eY d0 _ r) _))
    revert c
    cases eY d0 _ r with
    | bad y m r=>intro c;cases d0<;>exact .call rfl (a5 v g) (.call rfl c .rr)
    | ok a m r=>intro c;cases d0<;>exact .call rfl (a5 v g) (.call rfl c .rr):∀q,yS is _ b i f 5 _=q->Sem _ q (aw _ id (Rs.bind _ λ ζ n r=>(eY d0 n r).bind _))) _ rfl
def Aj(Z)(n)(is)(d0)(h:gG is d0)(b)(a)(w:Wf rest):Sem (C (d+17)) (yS is d0 b a "" 4 (RS Z n rest)) (aw (RS Z) id ((uv n rest).bind λ f n r=>jZ d0 b a f n r)):=by
 match rest,w with
 | t::r,w=>
 refine (?_:Sem _ _ (aw _ _ (Rs.bind (cond (t.k==16) (one _ _ r) _) _)));cases q:t.k==16 with
 | false=>exact .call rfl (uD Z n t r w.nz q) (.cv rfl (Ai Z n is d0 h b a "" w))
 | true=>
  match r,w.tl λ z=>by simp_all with
  | i::g,e=>
  have c:=Rr Z n t i g e.nz (d:=d+9);refine .call rfl (uD Z n t _ w.nz q) ?_;cases v:p9 _ with
  | error y=>rw [aK v];exact .call rfl (a9 v c) .rr
  | ok x=>rw [aJ v];exact .call rfl (a5 v c) (.cv rfl (Ai Z _ is d0 h b a x (e.tl λ z=>by have v:=z▸v;contradiction)))
def KU(Z)(n)(is)(d0)(h:gG is d0)(b)(w:Wf rest):Sem (C (d+17)) (yS is d0 b 0 "" 3 (RS Z n rest)) (aw (RS Z) id ((zX n rest).bind λ i n r=>(uv n r).bind λ e n r=>jZ d0 b i e n r)):=by
 match rest,w with
 | t::r,w=>
 refine (?_:Sem _ _ (aw _ _ (Rs.bind (cond (t.k==12) (one _ _ r) _) _)));cases q:t.k==12 with
 | false=>exact .call rfl (uE Z n t r w.nz q) (.cv rfl (Aj Z n is d0 h b 0 w))
 | true=>
  match r,w.tl λ z=>by simp_all with
  | g::f,c=>
  have a:=Ae Z (n+1) g f c.nz (d:=d+7);refine .call rfl (uE Z n t _ w.nz q) (.call rfl (jz Z n t _) ?_);cases v:f_ _ with
  | error y=>rw [aK v];exact .call rfl (a9 v a) .rr
  | ok x=>rw [aJ v];exact .call rfl (a5 v a) (.cv rfl (Aj Z _ is d0 h b x (c.tl λ z=>by have v:=z▸v;contradiction)))
def yG(Z)(n)(is)(d0)(h:gG is d0)(w:Wf rest):C (d+18) 473 [.ref 0,.tup (is.map kP),kD d0,.bool true] (RS Z n rest) (aw (RS Z) id (hP is d0 n rest)):=by
 have b:=Ox Z n is h.ki h.kl w (d:=d);have g:=i7 (f:=eb) (λ ζ ζ ζ w=>jY w) is true n _ w;refine (by cases d0<;>rfl:hP is d0 n _=(bZ _ _ is n _).bind λ a n r=>(zX n r).bind λ e n r=>(uv n r).bind λ c n r=>jZ d0 (.tup (a.map _)) e c n r)▸?_
 revert b g
 cases bZ _ _ is n _ with
 | bad y m r=>exact λ b ζ=>hC.go 0 (.call rfl b .rr)
 | ok a m r=>exact λ b g=>hC.go 0 (.call rfl b (.cv rfl (KU Z m is d0 h _ g.wf)))
end
def zf(N:Nat):Kn:=λ a b=>ao N (b0.body.drop 5) a b aM aP
def ze(N m:Nat)(ρ:En)(σ:St):bX:=W N (yC (aY b0 4)) (yB (aY b0 4)) (zf N) m ρ σ
def pM(is:List Nat)(d:Option Dt)(b:Nat)(a:List V):En:= [some (.ref 0),some (.tup (is.map kP)),some (kD d),some (.bool true),some (.int b),some (.lst a)]
def yq(is:List Nat)(d:Option Dt)(f:Nat)(a:List V)(n:Nat)(r:List Tk):Rs (List V):=(mT is d f a n r).bind λ l n r=>(one (aG 2) n r).bind λ ζ n r=> .ok l n r
def pn(is:List Nat)(d:Option Dt)(f:Nat)(a:List V)(n:Nat)(r:List Tk):Rs (List V):=(cond ((a7 (aA aT n r).2).k==6) (mT is d f a (aA aT ((aA aT n r).1+1) (aA aT n r).2.tail).1 (aA aT ((aA aT n r).1+1) (aA aT n r).2.tail).2) (.ok a (aA aT n r).1 (aA aT n r).2)).bind λ l n r=>(one (aG 2) n r).bind λ ζ n r=> .ok l n r
section
variable{c:Nat->Cm}{S:Nat->List Tk->St}{is:List Nat}{d0:Option Dt}{A:Nat->Nat->List Tk->bX}{L M:Nat->Nat->Nat->List V->Nat->List Tk->bX}
def xG
 (hA:∀D o n t r {h:Unit->Nat->List Tk->Rs (List V)},Wf (t::r)->o<=31->(∀u,aG 1 t.k= .ok u->Sem (c D) (L (r.length+2) (r.length+2) o [] (aA aT (n+1) r).1 (aA aT (n+1) r).2) (aw S .tup (h u (n+1) r)))->Sem (c D) (A o n (t::r)) (aw S .tup ((one (aG 1) n (t::r)).bind h)))
 (hE:∀D N m o j n t r,Wf (t::r)->(t.k==2)=true->j.length<=1000001->Sem (c (D+1)) (L N (m+1) o j n (t::r)) (aw S .tup ((one (aG 2) n (t::r)).bind λ ζ n r=> .ok j n r)))
 (hN:∀D N m o j n t r {x} {h:List V->Nat->List Tk->Rs (List V)},Wf (t::r)->(t.k==2)=false->(t.k==1)=true->Sem (c D) (A (o+1) n (t::r)) (aw S .tup x)->(∀l s r1,x= .ok l s r1->j.length+l.length<=1000000/\Sem (c (D+1)) (M N m o (j++l) s r1) (aw S .tup (h l s r1)))->Sem (c (D+1)) (L N (m+1) o j n (t::r)) (aw S .tup (x.bind h)))
 (hL:∀D N m o j n t r {h:List V->Nat->List Tk->Rs (List V)},Wf (t::r)->(t.k==2)=false->(t.k==1)=false->j.length<=1000000->(∀v s r1,hP is d0 n (t::r)= .ok v s r1->Sem (c (D+1)) (M N m o (j++ [v]) s r1) (aw S .tup (h [v] s r1)))->Sem (c (D+1)) (L N (m+1) o j n (t::r)) (aw S .tup (((hP is d0 n (t::r)).bind λ v n r=> .ok [v] n r).bind h)))
 (hM:∀D N m o f j n i,j.length<=1000001->Wf i->i.length<=m->(∀F r',a_ n i F r'->n+1<=F->r'.length<i.length->Sem (c (D+1)) (L N m o j F r') (aw S .tup (yq is d0 f j F r')))->Sem (c (D+1)) (M N m o j n i) (aw S .tup (pn is d0 f j n i))):∀f,
 (∀n i o b D,Wf i->2*i.length+1<=f->br i<=b->b<=D->b+o<=31->n+i.length<=100000->Sem (c D) (A o n i) (aw S .tup (cV is d0 f n i)))/\
 (∀N m j n i o b D,Wf i->2*i.length+2<=f->i.length<m->br i<=b->b<=D->b+o<=30->j.length<=n->n+i.length<=100000->Sem (c (D+1)) (L N m o j n i) (aw S .tup (yq is d0 f j n i))):=by
 intro f
 induction f with
 | zero=>exact {λ ζ ζ ζ ζ ζ ζ h=>absurd h (Bt _),λ ζ ζ ζ ζ ζ ζ ζ ζ ζ h=>absurd h (Bt _)}
 | succ f ih=>
  refine {λ n i o b D w P B G H I=> ?_,λ N m j n i o b D w P hm B G H U I=> ?_}
  ·cases i with
   | nil=>cases w
   | cons t r=>
   refine hA D o n t r w (ag (dg _ _) H) λ u v=> ?_;have k1:=bM v
   have B:br r+1<=b:=by
    have z:br (t::r)=br r+cond _ 1 0:=rfl;rw [z,k1] at B;exact B
   cases b with
   | zero=>cases B
   | succ b=>cases D with
    | zero=>cases G
    | succ D=>
     have a:=c9 (p:=aT) rfl r (n+1) (w.tl (by rw [k1];decide));exact ih.2 _ _ [] _ _ o b D a.wf (ag (o5 (Bq 2 a.len) 2) (iD P)) (ez (nj a.len)) (ag a.br (iD B)) (iD G) (iD (uZ b o▸H)) (m_ _) (ag (b1 (a.eq.trans (kU n r.length))) I)
  ·cases i with
   | nil=>cases w
   | cons t r=>cases m with
    | zero=>cases hm
    | succ m=>
   have up:∀{s:Nat} {r1:List Tk},a_ n (t::r) s r1->s+r1.length<=100000:=λ a=>ag (b1 a.eq) I;have y:j.length<=100000:=ag U (ag (ed _ _) I)
   have E:∀l s r1,a_ n (t::r) s r1->j.length+l.length<=s+1->Sem (c (D+1)) (M N m o (j++l) s r1) (aw S .tup (pn is d0 f (j++l) s r1)):=λ l s r1 a Q=>by
    have Q:(j++l).length<=s+1:=by rw [hH];exact Q
    have hr:=ag a.len (Bk hm)
    exact hM D N m o f _ s r1 (ag Q (ez (ag (ed _ _) (ag (up a) (eN rfl))))) a.wf hr λ F r' T Z J=>
     ih.2 N m _ F r' o b D T.wf (ag (Bq 2 (ag J a.len)) (kS (iD P))) (o4 J hr) (ag T.br (ag a.br B)) G H (ag Q Z) (ag (b1 T.eq) (up a))
   show Sem _ _ (aw _ _ (Rs.bind (cond (t.k==2) _ _) _));cases q:t.k==2 with
   | true=>exact hE D N m o j n t r w q (ag y (eN rfl))
   | false=>
   have as:∀x:Rs (List V),((x.bind λ l n r=>cond ((a7 (aA aT n r).2).k==6) (mT is d0 f (j++l) (aA aT ((aA aT n r).1+1) (aA aT n r).2.tail).1 (aA aT ((aA aT n r).1+1) (aA aT n r).2.tail).2) (.ok (j++l) (aA aT n r).1 (aA aT n r).2)).bind λ l n r=>(one (aG 2) n r).bind λ ζ n r=> .ok l n r)=x.bind λ l n r=>pn is d0 f (j++l) n r:=λ x=>by cases x<;>rfl
   show Sem _ _ (aw _ _ (Rs.bind (Rs.bind (cond (t.k==1) (cV is d0 f n (t::r)) _) _) _));rw [as];cases q1:t.k==1 with
   | true=>
    exact hN D N m o j n t r (x:=cV is d0 f n (t::r)) w q q1 (ih.1 n _ (o+1) b D w (iD P) B G (ez H) I) λ l s r1 e=>by
     have g:=(jQ is d0 f).1 n (t::r) w;rw [e] at g;have al:j.length+l.length<=s:=ag (o5 U _) (Nat.add_comm _ n▸kS g.2);exact {ag al (ag (ed _ _) (ag (up g.1) (eN rfl))),E l s r1 g.1 (nj al)}
   | false=>
    exact hL D N m o j n t r w q q1 (ag y (eN rfl)) λ v s r1 e=>by
     have g:=sf (is:=is) (d:=d0) (n:=n) w;rw [e] at g;exact E [v] s r1 g (ez (ag U g.le))
end
section
variable{n e:Nat}{rest:List Tk}
def An(Z)(N)(is)(d0)(b)(a)(f:a.length<=1000001)(w:Wf rest):Sem (C (e+19)) (zf N (pM is d0 b a) (RS Z n rest)) (aw (RS Z) .tup ((one (aG 2) n rest).bind λ ζ n r=> .ok a n r)):=by
 match rest,w with
 | t::r,w=>
 have c:=Hn Z n t r w.nz (d:=e+12);cases v:aG 2 t.k with
 | error y=>rw [aK v];exact .call rfl (a9 v c) .rr
 | ok u=>
  rw [aJ v];exact fV (.call rfl (a5 v c) .rr) (gL rfl f)
def fX(Z)(n)(x)(b){t}{r}{d}(a:C (d+4) 277 [.ref 0,.str x] (RS Z n (t::r)) (.ok (.bool b) (RS Z n (t::r)))):C (d+5) 291 [.ref 0,.str x] (RS Z n (t::r)) (.ok (.bool b) (cond b (RS Z (n+1) r) (RS Z n (t::r)))):=by
 cases b<;>exact hC.go 0 (.call rfl a .rr)
def KX(Z)(N m)(is)(d0)(f c)(b)(o:b.length<=1000001)(w:Wf rest)
 (next:∀g r',a_ n rest g r'->n+1<=g->r'.length<rest.length->Sem (C (e+19)) (ze N m (pM is d0 c b) (RS Z g r')) (aw (RS Z) .tup (yq is d0 f b g r'))):
 Sem (C (e+19)) (ao N ((yB (aY b0 4)).drop 1) (pM is d0 c b) (RS Z n rest) (λ ρ σ=>ze N m ρ σ) (zf N))
  (aw (RS Z) .tup (pn is d0 f b n rest)):=by
 delta pn
 have a:=c9 (p:=aT) rfl _ n w;refine .call rfl (uF Z n w) ?_
 revert a
 generalize aA _ n _=q;obtain ⟨d,u⟩:=q;intro a
 match u,a with
 | t::r,a=>
 have h:=a.wf;refine (?_:Sem _ _ (aw _ _ (Rs.bind (cond (t.k==6) _ _) _)));cases q:t.k==6 with
 | false=>exact .call rfl (fX Z d "," _ (tF Z d t r h.nz q)) (.cv rfl (An Z N is d0 c b o h))
 | true=>
  have s:=a_.step (n:=d) h λ z=>by simp_all
  have i:=c9 (p:=aT) rfl r (d+1) s.wf;refine .call rfl (fX Z d "," _ (tF Z d t r h.nz q)) (.call rfl (uF Z _ s.wf) ?_)
  have j:=next _ _ ((a.trans s).trans i) (ag (ez a.le) i.le) (by
   have l:=i.len;have k:=a.len;simp [dx] at k
   exact fZ l k)
  revert j
  exact λ j=> .cv rfl j
def Ms{a:Nat}(h:a<=31):((a:Int)==32)=false:=by lia
def Ov(Z:Px)(is:List Nat)(d0:Option Dt)(A:gG is d0)(f:Nat):∀n rest a b D,Wf rest->2*rest.length+1<=f->br rest<=b->b<=D->b+a<=31->n+rest.length<=100000->Sem (C (D+19)) (ao (rest.length+1) b0.body [some (.ref 0),some (.tup (is.map kP)),some (kD d0),some (.bool true),some (.int a),none] (RS Z n rest) aM aP) (aw (RS Z) .tup (cV is d0 f n rest)):=
 have s:∀{D a g n t r i},t.k<nv->(t.k==2)=i->Sem (C (D+20)) (ev (yC (aY b0 4)) (pM is d0 a g) (RS Z n (t::r))) (.ok (.bool !i) (RS Z n (t::r))):=λ {D a g n t r i} w q=> .call ⋯ (tG Z n t r w q) (.ret ⋯);have E:∀{D a g n t r i},t.k<nv->(t.k==1)=i->Sem (C (D+20)) (ev (.pF 277 "is_sign" (.loc 0) [.lit (.str "{")]) (pM is d0 a g) (RS Z n (t::r))) (.ok (.bool i) (RS Z n (t::r))):=λ {D a g n t r i} w q=> .call ⋯ (Ol Z n t r w q) (.ret ⋯)
 (xG (c:=λ D=>C (D+19)) (L:=λ N m a g n rest=>ze N m (pM is d0 a g) (RS Z n rest)) (M:=λ N m a g n rest=>ao N ((yB (aY b0 4)).drop 1) (pM is d0 a g) (RS Z n rest) (λ H I=>ze N m H I) (zf N))
   (λ D a n t r h w G k=>by
     refine ak _ .rr ?_;rw [Ms G];have F:=wU Z n t r w.nz (d:=D+12);cases v:aG 1 t.k with
     | error y=>rw [aK v];exact .call rfl (a9 v F) .rr
     | ok u=>
      rw [aJ v]
      exact .call rfl (a5 v F) (.call ⋯ (uF Z (n+1) (w.tl (by rw [bM v];decide))) (.cv ⋯ (k u v))))
   (λ D N m a g n t r w q p=>fR (s w.nz q) (An Z N is d0 a g p w))
   (λ D N m a g n t r x h w q B z k=>fQ (s w.nz q) (dn (E w.nz B) (by
     have z:C (D+20) 481 [.ref 0,.tup (is.map kP),kD d0,.bool true,.int (a+1:Nat)] _ _:=Cl.b6 _ b0 _ ⋯ ⋯ z;cases x with
     | bad y j o=>exact GP (l:=g) rfl (.call ⋯ z (.ret ⋯))
     | ok l j o=>exact J4 (l:=g) (w:=l) rfl (.call ⋯ z (.ret ⋯)) (k l j o rfl).1 (k l j o rfl).2)))
   (λ D N m a g n t r h w q B p k=>fQ (s w.nz q) (dn (E w.nz B) (by
     have z:=yG Z n is d0 A w (d:=D+2)
     revert z k
     cases hP is d0 n (t::r) with
     | bad y j o=>exact λ ζ z=>oi (l:=g) rfl (.call ⋯ z (.ret ⋯))
     | ok v j o=>exact λ k z=>gM (l:=g) (v:=v) rfl (.call ⋯ z (.ret ⋯)) p (k v j o rfl))))
   (λ D N m a f g n rest p w ζ next=>KX (e:=D+1) Z N m is d0 f a g p w next) f).1
def Ah(Z)(n)(is)(d0)(h:gG is d0)(w:Wf rest)(a:br rest<=31)(b:n+rest.length<=100000):C (e+52) 488 [.ref 0,.tup (is.map kP),kD d0] (RS Z n rest) (aw (RS Z) .tup (cV is d0 (2*rest.length+2) n rest)):=by
 have z:=Ov Z is d0 h (2*rest.length+2) n _ 0 31 (e+31) w (kN (2*rest.length+1)) a (dg _ _) (bV _) b;have z:C (e+51) 481 [.ref 0,.tup (is.map kP),kD d0,.bool true] _ _:=Cl.b6 _ _ _ rfl ⋯ z
 revert z
 cases cV is d0 _ n _ with
 | bad y m r=>exact λ z=>hC.go 0 (.call rfl z .rr)
 | ok l m r=>exact λ z=>hC.go 0 (.call rfl z .rr)
end
section
variable{C:Cm}{σ:St}{fe:En->St->Tree V}{ft:En->St->Tree Bool}{t:Tg}
def kJ{I:En->Prop}{p}{g}:∀(l) (ρ),(∀v ρ,v∈l->I ρ->∃ρ',dR t v ρ=some ρ'/\I ρ'/\Sem C (ft ρ' σ) (.ok (p v) σ)/\(p v=true->Sem C (fe ρ' σ) (.ok (g v) σ)))->I ρ->Sem C (je fe ft t l ρ σ) (.ok ((l.filter p).map g) σ)
 :=by
 intro c
 induction c with
 | nil=>
  intro ρ H i;exact .rt _
 | cons v l a=>
  intro ρ H i
  exact by
   refine (H v ρ (.head _) i).elim λ ρ' b=> ?_;have a:=a ρ' (λ v ρ m=>H v ρ (.tail _ m)) b.2.1;refine aX b.1 (pH b.2.2.1 ?_);cases q:p v with
   | true=>rw [List.filter_cons_of_pos q];exact pH (b.2.2.2 q) (pH a .rr)
   | false=>rw [List.filter_cons_of_neg (q▸cK)];exact a
end
def jw{b}{j}{s}{a:List b}{n}{t}{r}(q:(t.k==j)=false):e5 j s a n (t::r)= .ok a n (t::r):=by
 cases r with
 | nil=>rfl
 | cons=>show cond (t.k==j) _ _=_;rw [q];rfl
def jx{c}{j}{s}{a:List c}{n}{t b}{r}{y}(q:(t.k==j)=true)(v:s b.k= .error y):e5 j s a n (t::b::r)= .bad y (n+1) (b::r):=by
 show cond (t.k==j) _ _=_;rw [q,v];rfl
def jy{d}{j}{s}{b}{n}{t c}{r}{a:d}(q:(t.k==j)=true)(v:s c.k= .ok a):e5 j s b n (t::c::r)=e5 j s (b++ [a]) (n+2) r:=by
 show cond (t.k==j) _ _=_;rw [q,v];rfl
theorem uu{D}{j}{s}(u:j≠0)(p:∀a,s 0≠.ok a){P:D->Prop}(x:∀k a,s k= .ok a->P a):∀(d) (c) (n),Wf d->(∀a∈c,P a)->∀l m r,e5 j s c n d= .ok l m r->a_ n d m r/\(∀a∈l,P a)/\l.length+n<=c.length+m
 | [],_,_,w,_=>w.elim
 | [t],c,n,w,g=>λ l m r e=>by cases e;exact {.rfl w,g,bV _}
 | t::E::B,c,n,w,g=>λ l m r e=>by
  cases q:t.k==j with
  | false=>rw [jw q] at e;cases e;exact {.rfl w,g,bV _}
  | true=>
   have i:=a_.step (n:=n) w λ z=>u ((gU q).symm.trans z);cases v:s _ with
   | error y=>rw [jx q v] at e;contradiction
   | ok a=>
    rw [jy q v] at e;have o:=a_.step (n:=n+1) i.wf λ z=>p a (z▸v);exact (uu u p x B _ _ o.wf (λ b m=>(e6.mp m).elim (g b) λ m=>cu.mp m▸x _ _ v) l m r e).elim λ A f=>{(i.trans o).trans A,f.1,by have h:=f.2;rw [hH,Bw,sG c.length 1 m] at h;exact kS (iD h)}
def ph{p}{j}{s}(i:j≠0)(g:∀a,s 0≠.ok a){P:p->Prop}(h:∀k a,s k= .ok a->P a){c}{n}(w:Wf c){l}{m}{r}(e:bK j s n c= .ok l m r):a_ n c m r/\(∀a∈l,P a)/\l.length+n<=m:=by
 cases c with
 | nil=>exact w.elim
 | cons t o=>
 unfold bK at e;cases v:s t.k with
 | error y=>rw [aK v] at e;contradiction
 | ok a=>
  rw [aJ v] at e;have f:=a_.step (n:=n) w λ z=>g a (z▸v);have d:=uu i g h o [a] _ f.wf (λ b m=>cu.mp m▸h _ _ v) l m r e;exact {f.trans d.1,d.2.1,Nat.lt_one_add_iff.mp d.2.2}
def om:∀a,bY 0≠.ok a:=λ a h=>by contradiction
def G1:∀a,dr 0≠.ok a:=λ a h=>by contradiction
def lO{k i}(h:bY k= .ok i):i<4:=by
 unfold bY qR at h;by_cases w:eO k=true
 ·rw [if_pos w] at h;by_cases q:18<=k/\k<22
  ·rw [if_pos q] at h;cases h;exact Nat.sub_lt_left_of_lt_add q.1 q.2
  ·simp_all
 ·simp_all
def w8(i:Nat):V:=.str (cG i)
section
def RY(N:Nat):Kn:=λ a b=>ao N (gY.body.drop 2) a b aM aP
theorem Ff(Z)(N){d}:∀(b) (c) (n m),Wf b->b.length<m->c.length+b.length<=200000->Sem (C (d+7)) (W N (yC (aY gY 1)) (yB (aY gY 1)) (RY N) m [some (.ref 0),some (.lst (c.map w8))] (RS Z n b)) (aw (RS Z) (λ l=>V.tup (l.map w8)) (e5 7 bY c n b))
 | [],_,_,_,w,_,_=>w.elim
 | _::_,_,_,0,_,h,_=>absurd h (gV _)
 | [t],c,n,m+1,w,h,e=>fR (.call rfl (fX Z n "." _ (yH Z n t [] w.nz (w.elim λ w=>by rw [w.1];rfl λ w=>w.2.2.elim))) .rr) (gL rfl (jD e rfl))
 | t::j::r,c,n,m+1,w,h,e=>by
  simp [dx] at h e;cases q:t.k==7 with
  | false=>rw [jw q];exact fR (.call rfl (fX Z n "." _ (yH Z n t _ w.nz q)) .rr) (gL rfl (jD e rfl))
  | true=>
   have i:=w.tl λ z=>by simp_all
   refine fQ (σ':=RS Z _ _) (.call rfl (fX Z n "." _ (yH Z n t _ w.nz q)) .rr) ?_;have g:=Ac Z (n+1) j r i.nz (d:=d);cases v:bY _ with
   | error y=>exact jx q v▸.call rfl (a9 v g) .rr
   | ok a=>
    have f:=Ff Z N (d:=d) r (c++ [a]) (n+2) m (i.tl λ z=>by rw [z] at v;contradiction) (xq h) (by rw [hH,Bw,sG];exact kS e);rw [qo] at f;rw [jy q v];exact gM rfl (.call rfl (a5 v g) .rr) (jD e rfl) f
def wN(Z)(n){b}(w:Wf b)(c:b.length<=100000){d}:C (d+8) 542 [.ref 0] (RS Z n b) (aw (RS Z) aW (bK 7 bY n b)):=by
 match b,w with
 | t::r,w=>
 have e:=Ac Z n t r w.nz (d:=d);unfold bK;cases v:bY t.k with
 | error y=>rw [aK v];exact hC.go 0 (.call rfl (a9 v e) .rr)
 | ok a=>
  rw [aJ v];simp [dx] at c;exact hC.go _ (.call rfl (a5 v e) (.cv rfl (Ff Z _ r [a] _ _ (w.tl λ z=>by rw [z] at v;contradiction) (j8 _) (ag (ee c 1) ⋯))))
end
section
variable{j:Nat}
def yo{d}{s}{b:List d}{n}{t c}{r}(q:(t.k==j)=true):e5 j s b n (t::c::r)=(one s (n+1) (c::r)).bind λ a n r=>e5 j s (b++ [a]) n r:=by
 cases v:s _ with
 | error y=>rw [jx q v,aK v];rfl
 | ok a=>rw [jy q v,aJ v];rfl
def names4:List Str:= [bG 0,bG 1,bG 2,bG 3]
variable{i:Nat}
def y7(h:i<4):bG i∈names4:=match i,h with
 | 0,_=> .head _
 | 1,_=> .tail _ (.head _)
 | 2,_=> .tail _ (.tail _ (.head _))
 | 3,_=> .tail _ (.tail _ (.tail _ (.head _)))
def sQ(hi:i<4)(a:j<4):(bG i==bG j)=(i==j):=bj (bj (f:=λ i=>(List.range 4).map λ j=>bG i==bG j) (g:=λ i=>(List.range 4).map _) ⋯ hi) a
structure vW(acc:List Nat)(ks:List Str)(vs:List V):Prop where
 len:ks.length=vs.length
 nd:ks.Nodup
 sub:∀x∈ks,x∈names4
 mem:∀j,j<4->(df ks vs (bG j)).isSome=acc.contains j
theorem r_(k)(v):∀(ks) (vs),ks.length=vs.length->(bB ks vs k v).1.length=(bB ks vs k v).2.length/\(∀x,df (bB ks vs k v).1 (bB ks vs k v).2 x=if k=x then some v else df ks vs x)/\(∀x,x∈(bB ks vs k v).1↔x∈ks∨x=k)/\(ks.Nodup->(bB ks vs k v).1.Nodup)
 | [],[],_=>{rfl,λ x=>rfl,λ x=>by show x∈[k]↔_;simp,λ ζ=>nh.mpr ⟨kR,kO⟩}
 | a::ks,b::vs,h=>by
  by_cases q:a=k
  ·have e:bB (a::ks) (b::vs) k v=(a::ks,v::vs):=if_pos q;rw [e];refine {h,λ x=> ?_,λ x=>{.inl,λ m=>m.elim id λ m=>by simp only [m,←q];exact .head _},id};show (if a=x then some v else df ks vs x)=if k=x then some v else if a=x then some b else df ks vs x
   rw [q];by_cases z:k=x
   ·simp_all
   ·simp_all
  ·have e:bB (a::ks) (b::vs) k v=(a::(bB ks vs k v).1,b::(bB ks vs k v).2):=if_neg q;rw [e];have c:=r_ k v ks vs (sx h);refine {congrArg _ c.1,λ x=> ?_,λ x=> ?_,λ d=> ?_}
   ·show (if a=x then some b else df _ _ x)=if k=x then some v else if a=x then some b else df ks vs x
    rw [c.2.1];by_cases z:a=x
    ·rw [if_pos z,if_neg λ y=>q (z.trans y.symm),if_pos z]
    ·rw [if_neg z,if_neg z]
   ·rw [a0,a0,c.2.2.1,or_assoc]
   ·simp_all
variable{acc:List Nat}{ks:List Str}{vs:List V}
def vW.snoc(h:vW acc ks vs)(hi:i<4):vW (acc++ [i]) (bB ks vs (bG i) (.bool true)).1 (bB ks vs (bG i) (.bool true)).2:=by
 have a:=r_ (bG i) (.bool true) ks vs h.len;refine {a.1,a.2.2.2 h.nd,λ x m=>((a.2.2.1 x).mp m).elim (h.sub x) λ m=>m▸y7 hi,λ j b=> ?_};rw [a.2.1,List.contains_eq_any_beq,List.any_append,←List.contains_eq_any_beq,←h.mem j b];have e:=sQ hi b;by_cases q:bG i=bG j
 ·simp_all
 ·rw [if_neg q];rw [show [i].any _=false by simp only [List.any_cons,(by lia:(j==i)=false)];rfl,Bool.or_false]
def vW.bound(h:vW acc ks vs):ks.length<=4:=List.Nodup.length_le_of_subset h.nd h.sub
def pj{k}(h:dr k= .ok i):i<4:=by
 unfold dr vk at h;by_cases q:k=23
 ·rw [if_pos q] at h;cases h;decide
 rw [if_neg q] at h;by_cases q:k=25
 ·rw [if_pos q] at h;cases h;decide
 rw [if_neg q] at h;by_cases q:k=22
 ·rw [if_pos q] at h;cases h;decide
 rw [if_neg q] at h;by_cases q:k=12
 ·rw [if_pos q] at h;cases h;decide
 rw [if_neg q] at h;contradiction
noncomputable def uV:V:=.tup [.str "constant",.str "dynamic",.str "interval",.str "timeout"]
def Mh(ks:List Str)(vs:List V)(b:Bool):En:= [some (.ref 0),some uV,some (.bH ks vs),some (.bool b),none]
def QN(N:Nat):Kn:=λ a b=>ao N (cC.body.drop 4) a b aM aP
section
variable{C:Cm}{n:Nat}{ρ ρ':En}{σ σ':St}{kn kb:Kn}{r:R V}{ys b:List Y}{i:Nat}{k v:X}{ks:List Str}{vs:List V}{u:V}
def J1{x}(e:ay ρ i=some (.bH ks vs))(h:Sem C (ev v ρ σ) (.ok u σ))(a:Sem C (ev k ρ σ) (.ok (.str x) σ'))(q:ks.length<=1000)(g:Sem C (ao n ys (ρ.set i (some (.bH (bB ks vs x u).1 (bB ks vs x u).2))) σ' kn kb) r):Sem C (ao n (.oset i k v::ys) ρ σ kn kb) r:=aX e (aC h (aC a (gj q g)))
def RU{w}(e:ay ρ i=some (.bH ks vs))(h:Sem C (ev v ρ σ) (.ok u σ))(a:Sem C (ev k ρ σ) (.ex w σ')):Sem C (ao n (.oset i k v::ys) ρ σ kn kb) (.ex w σ'):=aX e (aC h (aC a rfl))
variable{l:List V}
def ji{e}{t}{c}{a}{m}(h:Sem C (i3 c ρ σ) (.ok l σ))(g:Sem C (je (λ ρ σ=>ev e ρ σ) (λ ρ σ=>nN a ρ σ) t l (ll (bw t) ρ) σ) (.ok m σ)):Sem C (ev (.comp e t c a) ρ σ) (.ok (.lst m) σ):=aC h (pH g .rr)
def mJ(h:l.length<=1000000):prim (.ek .tuple) σ [.lst l]=some (.tup l):=if_pos h
end
section
variable{d:Nat}
def Ot(Z)(N)(acc)(ks)(vs)(h:vW acc ks vs)(n)(a):Sem (C d) (QN N (Mh ks vs false) (RS Z n a)) (.ok (jO acc) (RS Z n a)):=by
 have c:Sem (C d) (je (λ b e=>ev (.loc 4) b e) _ (.loc 4) _ (Mh ks vs _) _) (.ok (([V.str "constant",.str "dynamic",.str "interval",.str "timeout"].filter λ v=>(ae v.s? _).isSome).map id) _):=
  kJ (I:=λ b=>∃x,b= [some _,some uV,some _,some _,x]) _ _ (λ v b m i=>by
   obtain ⟨x,rfl⟩:=i;refine {[some _,some uV,some _,some _,some v],rfl,⟨_,rfl⟩,?_,λ ζ=> .rr};obtain ⟨s,rfl⟩:=(by grind:∃s,v= .str s);refine (?_:Sem _ (nN [.si (.loc 4) 2] _ _) (.ok (df ks vs s).isSome _));refine aC (.rr:Sem _ (ev _ [some _,some uV,some _,some (.bool false),some _] (RS Z n a)) _) ?_
   cases (df ks vs s).isSome<;>exact .rt _) ⟨none,rfl⟩
 rw [(by
  rw [List.map_id,show [V.str _,.str _,.str _,.str _]= [0,1,2,3].map _ from by kernel_rfl,List.filter_map]
  congr 1
  exact List.filter_congr λ j m=>h.mem j (nf.mp m):([V.str _,.str _,.str _,.str _].filter _).map id=([0,1,2,3].filter λ i=>acc.contains i).map λ i=>V.str _)] at c
 refine ah (ai (ji .rr c) .rr) (mJ ?_);rw [cJ];exact ag (Bv _ _) ⋯
def Oq(Z)(N):∀(L) (e),e.length<=L->∀(acc) (ks) (vs),vW acc ks vs->∀(n m),Wf e->e.length<m->Sem (C (d+6)) (W N (yC (aY cC 3)) (yB (aY cC 3)) (QN N) m (Mh ks vs true) (RS Z n e)) (aw (RS Z) jO ((one dr n e).bind λ a n r=>e5 6 dr (acc++ [a]) n r)):=by
 intro L
 induction L with
 | zero=>intro e h acc ks vs f n m w;match e,w,h with | t::r,w,h=>exact absurd h (Bt _)
 | succ L B=>
  intro e h acc ks vs f n m w o
  match e,w,m,o,h with
  | t::r,w,m+1,o,h=>
  simp [dx] at o h;have u:=KW Z n t r w.nz (d:=d);refine fQ .rr ?_;cases v:dr t.k with
  | error y=>exact aK v▸.call rfl (a9 v u) .rr
  | ok a=>
   have s:=w.tl λ z=>by rw [z] at v;contradiction
   have l:=f.snoc (pj v);simp [aJ v];show Sem _ _ (aw _ _ (e5 6 _ _ _ r));refine J1 rfl .rr (.call rfl (a5 v u) .rr) (ag f.bound (by simp)) ?_
   revert l
   generalize (bB ks vs _ _).1=g;generalize (bB ks vs _ _).2=k;intro l;cases r with
   | nil=>contradiction
   | cons p x=>
   cases q:p.k==6 with
   | false=>
    obtain ⟨m,rfl⟩:∃c,m=c+1:={m-1,by lia};rw [jw q];exact .call rfl (fX Z _ "," _ (tF Z _ p x s.nz q)) (.cv ⋯ (fR (N:=N) (c:=yC (aY cC 3)) (b:=yB (aY cC 3)) (m:=m) .rr (Ot Z N _ g k l _ _)))
   | true=>
    have A:=s.tl λ z=>by simp_all
    cases x with
    | nil=>cases A
    | cons E D=>
    rw [yo q];exact .call rfl (fX Z _ "," _ (tF Z _ p _ s.nz q)) (.cv rfl (B _ (kS h) _ g k l _ m A (xq o)))
def Hr(Z)(n){a}(w:Wf a):C (d+7) 547 [.ref 0] (RS Z n a) (aw (RS Z) jO (bK 6 dr n a)):=
 Cl.b6 _ _ [some _,none,none,none,none] rfl rfl (.cv rfl (Oq Z _ _ _ (bV _) [] [] [] {rfl,kO,λ ζ m=>(by grind),λ ζ ζ=>rfl} n _ w (j8 _)))
end
end
section
def Zt(Z:Px)(es:List Td):Px:={Z.toks,Z.kn,[.dict (es.map Td.key) (es.map Td.val)]}
inductive RW(P:R V->Prop)(S:List Td->Nat->List Tk->St):Rs (List Td)->Prop
 | ok {es m r} (h:P (.ok .none (S es m r))):RW P S (.ok es m r)
 | bad {w m r} (es) (h:P (.ex (.exc w (a7 r).row (a7 r).col) (S es m r))):RW P S (.bad w m r)
def RW.pre{P a:R V->Prop}{S x}(z:RW P S x)(h:∀q,P q->a q):RW a S x:=z.casesOn (λ p=> .ok (h _ p)) λ b p=> .bad b (h _ p)
variable{Z:Px}{es:List Td}{n:Nat}{r:List Tk}
def told_set(e:Td)(h:a8 es)(t:told es e.key=false):setItem (RS (Zt Z es) n r) (.ref 3) (.str e.key) e.val=some (RS (Zt Z (es++ [e])) n r):=by
 show oe (gd _ _) _=_;rw [gd,if_pos (by rw [cJ];exact ag h.len (by simp)),sb t];rfl
def wo(w):prim (.cmp .In) (RS (Zt Z es) n r) [.str w,.ref 3]=some (.bool (told es w)):=by
 rw [←lY];kernel_rfl
def t_(w):prim (.cmp .NotIn) (RS (Zt Z es) n r) [.str w,.ref 3]=some (.bool !(told es w)):=by
 rw [←lY];kernel_rfl
def ub(w)(v):kx .eH (RS (Zt Z es) n r) (.ref 3) [.str w,v]=some (look es w v):=by
 rw [←h9];kernel_rfl
def rV(w)(v)(h:df (es.map Td.key) (es.map Td.val) w=some v):prim .item (RS (Zt Z es) n r) [.ref 3,.str w]=some v:=by
 rw [(by kernel_rfl:prim _ _ _=oe (df _ _ w) none),h];rfl
section
variable{C:Cm}{n:Nat}{ρ ρ':En}{σ σ' σ'':St}{kn kb:Kn}{r:R V}{ys b:List Y}{x k v:X}{u w:V}
def cZ{a}(h:Sem C (ev v ρ σ) (.ok u σ'))(c:Sem C (ev x ρ σ') (.ok w σ'))(d:Sem C (ev k ρ σ') (.ok a σ'))(e:setItem σ' w a u=some σ'')(g:Sem C (ao n ys ρ σ'' kn kb) r):Sem C (ao n (.c8 x k v::ys) ρ σ kn kb) r:=aC h (aC c (aC d (aX e g)))
def aI{c}{a}(h:Sem C (ev c ρ σ) (.ok (.bool false) σ))(k:Sem C (ao n ys ρ σ kn kb) r):Sem C (ao n (.ifs c a []::ys) ρ σ kn kb) r:=aC h k
def fF(h:Sem C (ev v ρ σ) (.ex u σ')):Sem C (ao n (.c8 x k v::ys) ρ σ kn kb) (.ex u σ'):=aC h rfl
def p7{p}{a}{v}{vs}(h:Sem C (ev x ρ σ) (.ok w σ))(q:qh p σ w=true)(c:Sem C (cw a ρ σ) (.ok vs σ))(e:kx p σ w vs=some v):Sem C (ev (.met p x a) ρ σ) (.ok v σ):=aC h (by simp [AT,q];exact pH c (e▸.rt _))
end
def RX(v:V):V:=(ae v.s? λ s=>some (kP (([cG 0,cG 1,cG 2,cG 3]:List Str).findIdx λ x=>x==s))).getD .none
def hg(d:Option Dt):V:=(d.map Ge).getD .none
section
variable{d:Nat}
def rg(Z)(n)(is)(hi:∀i∈is,i<4)(e:is.length<=200000)(a):C (d+1) 528 [.ref 1,aW is] (RS Z n a) (.ok (.tup (is.map kP)) (RS Z n a)):=by
 refine Cl.b6 0 _ [some _,some _,none] rfl rfl ?_
 have c:=kJ (C:=C d) (σ:=RS Z n a) (fe:=λ b σ=>ev (.prim .tup [.loc 2,.prim .item [.prim .item [.prim (.attr "types") [.loc 0],.loc 2],.lit (.int 0)]]) b σ) (ft:=λ b σ=>nN [] b σ) (t:=.loc 2) (I:=λ b=>∃x,b= [some (.ref 1),some (aW is),x]) (p:=λ ζ=>true)
  _ _ (λ v b m i=>by
   obtain ⟨x,rfl⟩:=i;obtain ⟨j,mj,rfl⟩:=i0.mp m
   exact {[some _,some _,some _],rfl,⟨_,rfl⟩,.rt _,λ ζ=> .ret (@bj _ (λ j=>Tree.rt (ev _ [_,_,some (.str _)] _)) (λ j=>some (.ok (RX (.str (cG j))) _)) 4 j ⋯ (hi j mj))}) ⟨none,rfl⟩
 rw [List.filter_eq_self.mpr λ ζ ζ=>rfl,uX] at c;exact ah (ai (ji (kI .rr rfl (by rw [cJ];exact ag e ⋯)) c) .rr) ((Bo λ j mj=>bj ⋯ (hi j mj)).symm▸mJ (by rw [cJ];exact ag e ⋯))
def uG(Z)(n)(d0)(h:∀is,d0=some (.keys is)->(∀i∈is,i<4)/\is.length<=200000)(a):C (d+1) 528 [.ref 1,hg d0] (RS Z n a) (.ok (kD d0) (RS Z n a)):=by
 cases d0 with
 | none=>exact hC.go 0 .rr
 | some d=>cases d with
  | cU=>exact hC.go 0 .rr
  | keys is=>exact rg Z n is (h is rfl).1 (h is rfl).2 _
end
end
noncomputable def yt:V:=.tup [.str "type",.str "flags",.str "timeout",.str "size",.str "auto-merge",.str "elements"]
def ko(b:Bool)(w:Str):En:= [some (.ref 0),some (.str (bk b)),some (.ref 3),some yt,some (.str w),none]
def lR(b:Bool)(w:Str)(Z:Px)(es:List Td)(n:Nat)(r:List Tk):bX:=ao 0 (kZ.body.drop 6) (ko b w) (RS (Zt Z es) n r) aM aP
def SP(Z:Px)(es:List Td)(n:Nat)(r:List Tk):St:=RS (Zt Z es) n r
noncomputable def cR(k:Nat):Bool:=decide (10<=k/\k<16)
section
def Hg(Z)(n)(t)(r)(h:t.k<nv){d}:C (d+4) 516 [.ref 0,yt] (RS Z n (t::r)) (.ok (.str (cond (cR t.k) (txt t.k) "")) (RS Z n (t::r))):=
 Cl.dp 3 (bj (f:=λ k=>bL lf T0 100 3 516 _ (b7 Z n (aH k _ _::r.map tv))) (g:=λ k=>some (.ok (.str (cond _ _ "")) (b7 Z n (aH k _ _::r.map tv)))) ⋯ h)
variable{rest:List Tk}
def Hd(Z)(b)(es)(ok:a8 es)(G:told es "type"=false)(n)(w:Wf rest)(E:rest.length<=100000){d}:RW (Sem (C (d+9)) (lR b "type" Z es n rest)) (SP Z) ((bK 7 bY n rest).bind λ is n r=>cond b ((one (aG 8) n r).bind λ ζ n r=>cond ((a7 r).k==17) (.ok (es++ [Td.ty is,Td.da .cU]) (n+1) r.tail) ((bK 7 bY n r).bind λ F n r=> .ok (es++ [Td.ty is,Td.da (.keys F)]) n r)) (.ok (es++ [Td.ty is]) n r)):=by
 have o:=wN (Zt Z es) n w E (d:=d+1);have g:=λ l m r=>ph (j:=7) ⋯ om (λ ζ ζ=>lO) (n:=n) w (l:=l) (m:=m) (r:=r)
 revert o g
 cases bK 7 _ n _ with
 | bad y m r=>exact λ o ζ=> .bad es (.call ⋯ o (.ret ⋯))
 | ok is m r=>
  refine λ o g=>(g is m r rfl).elim λ a D=> ?_;have H:=a.eq;have i:=ok.snoc (e:=.ty is) G {D.1,ag (a.cnt D.2) (ag E ⋯)} (.inl rfl)
  have st:∀q,Sem _ _ q->Sem (C (d+9)) (lR b "type" Z es n _) q:=λ q h=>
   ak true .rr (cZ (.call rfl o .rr) .rr .rr (told_set (.ty is) ok G) (.cv rfl h))
  cases b with
  | false=>exact .ok (st _ .rr)
  | true=>
   cases r with
   | nil=>exact a.wf.elim
   | cons t r=>
   have L:=wQ (Zt Z (es++ [Td.ty is])) m t r a.wf.nz (d:=d+2);refine (?_:RW _ _ ((one _ m _).bind _));cases v:aG 8 t.k with
   | error y=>rw [aK v];exact .bad _ (st _ (.call rfl (a9 v L) .rr))
   | ok u=>
   rw [aJ v];have B:=a.wf.tl λ z=>absurd (bM v) (by rw [z];decide);cases r with
   | nil=>cases B
   | cons s p=>
   have x:told (es++ [Td.ty is]) "data"=false:=by
    rw [iy];cases q:told es _ with
    | true=>rw [ok.dt q] at G;contradiction
    | false=>kernel_rfl
   have f:=λ q h=>
    st q (ak true .rr (fV (v:=.none) (σ':=RS (Zt Z (es++ [Td.ty is])) (m+1) _) (.call rfl (a5 v L) (.ret (rfl))) (.cv (rfl) h)))
   refine (?_:RW _ _ (cond (s.k==17) _ _));cases q:s.k==17 with
   | true=>
    obtain ⟨Q,N,I⟩:=s;have P:=gU q;subst P;have A:=told_set (Z:=Z) (n:=m+2) (r:=p) (.da .cU) i x;rw [jJ] at A;exact .ok (f _ (dn (.call rfl (pw _ _ _ p B.nz rfl) .rr) (cZ (.call rfl (jz _ _ _ p) .rr) .rr .rr A .rr)))
   | false=>
    have c:=wN (Zt Z (es++ [Td.ty is])) (m+1) B (ag (kS a.len) E) (d:=d+1)
    revert c
    cases bK 7 _ _ _ with
    | bad y J M=>exact λ c=> .bad (es++ [Td.ty is]) (f _ (dn (.call rfl (pw _ _ s p B.nz q) .rr) (.call rfl c .rr)))
    | ok F J M=>
     intro c;have A:=told_set (Z:=Z) (n:=J) (r:=M) (.da (.keys F)) i x;rw [jJ] at A;exact .ok (f _ (dn (.call rfl (pw _ _ s p B.nz q) .rr) (cZ (.call rfl c .rr) .rr .rr A .rr)))
def Hh(Z)(b)(es)(ok:a8 es)(c:told es "flags"=false)(n){rest}(w:Wf rest){d}:RW (Sem (C (d+9)) (lR b "flags" Z es n rest)) (SP Z) ((bK 6 dr n rest).bind λ is n r=> .ok (es++ [.fl is]) n r):=by
 have a:=Hr (Zt Z es) n w (d:=d+2)
 revert a
 cases bK 6 _ n _ with
 | bad y m r=>exact λ a=> .bad es (ak false .rr (ak true .rr (fF (.call rfl a .rr))))
 | ok is m r=>exact λ a=> .ok (ak false .rr (ak true .rr (cZ (.call rfl a .rr) .rr .rr (told_set (.fl is) ok c) .rr)))
def He(Z)(b)(es)(ok:a8 es)(c:told es "timeout"=false)(n){rest}(w:Wf rest){d}:RW (Sem (C (d+10)) (lR b "timeout" Z es n rest)) (SP Z) ((one f_ n rest).bind λ i n r=> .ok (es++ [.tm i]) n r):=by
 match rest,w with
 | t::r,w=>
 have a:=Ae (Zt Z es) n t r w.nz (d:=d);cases v:f_ t.k with
 | error y=>rw [aK v];exact .bad es (ak false .rr (ak false .rr (ak true .rr (fF (.call rfl (a9 v a) .rr)))))
 | ok i=>rw [aJ v];exact .ok (ak false .rr (ak false .rr (ak true .rr (cZ (.call rfl (a5 v a) .rr) .rr .rr (told_set (.tm i) ok c) .rr))))
def Hf(Z)(b)(es)(ok:a8 es)(c:told es "size"=false)(n){rest}(w:Wf rest){d}:RW (Sem (C (d+10)) (lR b "size" Z es n rest)) (SP Z) ((one pg n rest).bind λ i n r=> .ok (es++ [.sz i]) n r):=by
 match rest,w with
 | t::r,w=>
 have a:=KG (Zt Z es) n t r w.nz (d:=d);cases v:pg t.k with
 | error y=>rw [aK v];exact .bad es (ak false .rr (ak false .rr (ak false .rr (ak true .rr (fF (.call ⋯ (a9 v a) .rr))))))
 | ok i=>rw [aJ v];exact .ok (ak false .rr (ak false .rr (ak false .rr (ak true .rr (cZ (.call ⋯ (a5 v a) .rr) .rr .rr (told_set (.sz i) ok c) .rr)))))
def Hj(Z)(b)(es)(ok:a8 es)(a:told es "auto-merge"=false)(n)(rest){d}:RW (Sem (C d) (lR b "auto-merge" Z es n rest)) (SP Z) (.ok (es++ [.au]) n rest):=
 .ok (ak false .rr (ak false .rr (ak false .rr (ak false .rr (ak true .rr (cZ .rr .rr .rr (told_set .au ok a) .rr))))))
def Hi(Z)(b)(es)(ok:a8 es)(E:told es "elements"=false)(F:told es "type"=true)(n)(w:Wf rest)(A:br rest<=31)(x:n+rest.length<=100000){d}:RW (Sem (C (d+52)) (lR b "elements" Z es n rest)) (SP Z) ((one (aG 5) n rest).bind λ ζ n r=>(cV ((og es).getD []) (jc es) (2*r.length+2) n r).bind λ l n r=> .ok (es++ [.el l]) n r):=by
 match rest,w with
 | t::r,w=>
 have o:=Hm (Zt Z es) n t r w.nz (d:=d+45)
 have st:∀q,Sem _ _ q->Sem (C (d+52)) (lR b "elements" Z es n (t::r)) q:=λ q h=>
  ak false .rr (ak false .rr (ak false .rr (ak false .rr (ak false .rr (.cv rfl h)))))
 cases v:aG 5 t.k with
 | error y=>rw [aK v];exact .bad es (st _ (.call rfl (a9 v o) .rr))
 | ok u=>
 rw [aJ v];have a:=a_.step (n:=n) w (by rw [bM v];decide);simp only [dx] at x;refine (n_ F).elim λ i f=> ?_;have k:=ok.ok _ f.2.2;have z:=λ B e=>ok.ok _ (vz e) B rfl;rw [f.1];have j:=Ah (Zt Z es) (n+1) i _ ⟨k.1,k.2,z⟩ a.wf (ag a.br A) (ag (b1 (kU ..)) x) (e:=d)
 have p:Sem _ (ev (.call 528 [.prim (.attr "tongue") [.loc 0],.prim _ [.loc 2,.lit _]]) (ko b "elements") _) _:=
  aC (ai .rr (ai (ah .rr (rV _ _ f.2.1)) .rr)) (.cl (rg (Zt Z es) (n+1) i k.1 k.2 r (d:=d+51)) .rr)
 have s:∀u,C (d+52) 488 _ _ u->Sem _ (ev (.call 488 [.loc 0,.loc 5,.call 528 [.prim (.attr "tongue") [.loc 0],.met _ (.loc 2) [.lit _,.lit _]]]) [some _,some (.str (bk b)),some _,some yt,some (.str "elements"),some (.tup (i.map kP))] _) u:=λ u c=>
  aC (ai (v:=.ref 0) .rr (ai .rr (ai (aC (ai .rr (ai (p7 .rr rfl .rr (ub _ _)) .rr)) (.cl (by rw [xI];exact uG (Zt Z es) (n+1) _ z r) .rr)) .rr))) (.cl c .rr)
 have g:=(jQ i (jc es) (2*r.length+2)).1 (n+1) r a.wf
 revert j g
 refine (?_:_->_->RW _ _ ((cV i _ _ _ r).bind _));cases cV i _ _ _ r with
 | bad y m D=>exact λ j ζ=> .bad es (st _ (fV (.call rfl (a5 v o) .rr) (aV p rfl (fF (s _ j)))))
 | ok l m D=>
  exact λ j g=> .ok (st _ (fV (.call rfl (a5 v o) .rr) (aV p rfl (cZ (s _ j) .rr .rr (told_set (.el l) ok E) .rr))))
end
def Jv{k}{i}(h:f_ k= .ok i):0<=i:=by
 unfold f_ at h;cases v:qT.lookup k with
 | none=>rw [v] at h;contradiction
 | some n=>
  rw [v] at h;cases h
  exact gx (gy.mp (rfl:(qT.all λ p=>decide (0<=p.2))=true) _ ((λ l=>by
   induction l with
   | nil=>intro h;contradiction
   | cons a l b=>
    intro h;obtain ⟨x,y⟩:=a;simp [kQ] at h
    exact (Bool.eq_false_or_eq_true (k==x)).elim (λ q=>(by simp_all)) λ q=>(by rw [q] at h;exact .tail _ (b h)):∀(l),l.lookup k=some i->(k,i)∈l) _ v))
def Aw{d}{s:Nat->Except Str d}{n}{b}(w:Wf b)(c:∀a,s 0≠.ok a){a}{m}{r}(h:one s n b= .ok a m r):a_ n b m r/\∃k,s k= .ok a:=by
 have g:=hY (n:=n) w c;simp [h] at g;refine {g,(a7 b).k,?_};unfold one at h
 revert h
 cases s _ with
 | error=>exact λ h=>by lia
 | ok=>exact λ h=>by lia
def I4{d e}{x:Rs d}{f:d->Nat->List Tk->Rs e}{b}{m}{r}(h:x.bind f= .ok b m r):∃a c r',x= .ok a c r'/\f a c r'= .ok b m r:=by
 cases x with
 | bad=>contradiction
 | ok a c r'=>exact ⟨a,c,r',rfl,h⟩
def d4(b:Bool)(es:List Td)(k:Nat)(n:Nat)(r:List Tk):Rs (List Td):=match k with
 | 10=>(bK 7 bY n r).bind λ a n r=>cond b ((one (aG 8) n r).bind λ ζ n r=>cond ((a7 r).k==17) (.ok (es++ [.ty a,.da .cU]) (n+1) r.tail) ((bK 7 bY n r).bind λ c n r=> .ok (es++ [.ty a,.da (.keys c)]) n r)) (.ok (es++ [.ty a]) n r)
 | 11=>(bK 6 dr n r).bind λ a n r=> .ok (es++ [.fl a]) n r
 | 12=>(one f_ n r).bind λ i n r=> .ok (es++ [.tm i]) n r
 | 13=>(one pg n r).bind λ i n r=> .ok (es++ [.sz i]) n r
 | 14=> .ok (es++ [.au]) n r
 | _=>(one (aG 5) n r).bind λ ζ n r=>(cV ((og es).getD []) (jc es) (2*r.length+2) n r).bind λ l n r=> .ok (es++ [.el l]) n r
def RV(b)(es)(n)(a):mS b es n a=cond (cR (a7 a).k) (cond (told es (txt (a7 a).k)) (.bad "You can only specify this once" n a) (cond ((a7 a).k==15 && !told es "type") (.bad (gR b) n a) (d4 b es (a7 a).k (n+1) a.tail))) (.bad (b5 (a7 a).k yu) n a):=rfl
def rB{k}(h:cR k=true):k=10∨k=11∨k=12∨k=13∨k=14∨k=15:=(by decide:∀k<16,cR k=true->k=10∨k=11∨k=12∨k=13∨k=14∨k=15) k (gx h).2 h
def Rs.sa{b:Type}(P:b->Nat->List Tk->Prop)(x:Rs b):Prop:=∀a m r,x= .ok a m r->P a m r
def jV{b:Type}{P:b->Nat->List Tk->Prop}{a n r}(h:P a n r):(Rs.ok a n r).sa P:=λ ζ ζ ζ e=>by cases e;exact h
def q6{b c:Type}{x:Rs b}{f:b->Nat->List Tk->Rs c}{P:c->Nat->List Tk->Prop}(h:∀a n r,x= .ok a n r->(f a n r).sa P):(x.bind f).sa P:=λ ζ ζ ζ e=>(I4 e).elim λ a q=>q.elim λ n q=>q.elim λ r q=>h a n r q.1 _ _ _ q.2
def pZ{d g:Type}{s:Nat->Except Str d}{n}{b}{f:d->Nat->List Tk->Rs g}{P:g->Nat->List Tk->Prop}(w:Wf b)(c:∀a,s 0≠.ok a)(h:∀a m r,a_ n b m r->(∃k,s k= .ok a)->(f a m r).sa P):((one s n b).bind f).sa P:=q6 λ a m r e=>h a m r (Aw w c e).1 (Aw w c e).2
def q5{c d:Type}{j}{s:Nat->Except Str c}{n}{b}{f:List c->Nat->List Tk->Rs d}{P:d->Nat->List Tk->Prop}{G:c->Prop}(w:Wf b)(i:j≠0)(g:∀a,s 0≠.ok a)(o:∀k a,s k= .ok a->G a)(h:∀l m r,a_ n b m r->(∀a∈l,G a)->l.length+n<=m->(f l m r).sa P):((bK j s n b).bind f).sa P:=q6 λ a m r e=>(ph i g o w e).elim λ a z=>h _ m r a z.1 z.2
def GX{es:List Td}{is}(a:a8 es)(b:told es "type"=false):told (es++ [.ty is]) "data"=false:=by
 rw [iy];cases q:told es _ with
 | true=>rw [a.dt q] at b;contradiction
 | false=>kernel_rfl
def GV{es:List Td}{is}:told (es++ [.ty is]) "type"=true:=by simp [iy,show (Td.ty is).key== "type" from rfl]
def a8.Js{es:List Td}{is}{d}(a:a8 es)(b:told es "type"=false)(h:Td.ok (.ty is))(c:Td.ok (.da d)):a8 (es++ [.ty is,.da d]):=
 (jJ es [.ty is] [.da d])▸(a.snoc (e:=.ty is) b h (.inl rfl)).snoc (e:=.da d) (GX a b) c (.inr GV)
def GU{b}{es}(h:a8 es)(i:told es "type"=false){n}{r}(w:Wf r)(l:n+r.length<=100000):(d4 b es 10 n r).sa λ es' m r'=>a8 es'/\a_ n r m r':=
 q5 w ⋯ om (λ ζ ζ=>lO) λ g m r a s v=>by
  have x:=a.eq;have d:Td.ok (.ty g):={s,ag (a.cnt v) (ag (xv l) ⋯)};cases b with
  | false=>exact jV ⟨h.snoc (e:=.ty g) i d (.inl rfl),a⟩
  | true=>
   exact pZ a.wf (oq ⋯) λ u z o c ζ=>by
    show Rs.sa _ (cond ((a7 o).k==17) _ _);cases q:(a7 o).k==17 with
    | true=>exact jV {h.Js i d nofun,(a.trans c).trans (fC (p:=λ k=>k==17) rfl c.wf q)}
    | false=>exact q5 c.wf ⋯ om (λ ζ ζ=>lO) λ y A B j t f=>jV {h.Js i d (λ g e=>by cases e;exact {t,ag (j.cnt f) (ag (a.trans c).len (ag (xv l) ⋯))}),(a.trans c).trans j}
def Dg{b}{es}(c:a8 es){k}(e:cR k=true)(d:told es (txt k)=false){n}{r}(w:Wf r)(f:n+r.length<=100000):(d4 b es k n r).sa λ es' m r'=>a8 es'/\a_ n r m r':=by
 rcases rB e with rfl | rfl | rfl | rfl | rfl | rfl
 ·exact GU c d w f
 ·exact q5 w ⋯ G1 (λ ζ ζ ζ=>trivial) λ q m r a ζ ζ=>jV {c.snoc d trivial (.inl rfl),a}
 ·exact pZ w (λ a h=>by cases h) λ i m r a z=>z.elim λ k e=>jV {c.snoc d (Jv e) (.inl rfl),a}
 ·exact pZ w (λ a h=>by contradiction) λ i m r a ζ=>jV {c.snoc d trivial (.inl rfl),a}
 ·exact jV {c.snoc d trivial (.inl rfl),.rfl w}
 ·exact pZ w (oq ⋯) λ u p j a ζ=>q6 λ l s t o=>by
   have g:=(jQ ((og es).getD []) (jc es) (2*j.length+2)).1 p j a.wf;rw [o] at g;exact jV {c.snoc d (ag (g.1.cnt (kS g.2)) (ag a.len (ag (xv f) ⋯)):l.length<=200000) (.inl rfl),a.trans g.1}
section
def KH(Z)(b)(es)(c:a8 es){k}(l:cR k=true)(f:told es (txt k)=false)(o:k=15->told es "type"=true)(n){a}(w:Wf a)(j:br a<=31)(i:n+a.length<=100000){d}:RW (Sem (C (d+52)) (lR b (txt k) Z es n a)) (SP Z) (d4 b es k n a):=by
 have g:∀{e} {x} {t},e<=d+52->RW (Sem (C e) t) (SP Z) x->RW (Sem (C (d+52)) t) (SP Z) x:=λ m h=>h.pre λ ζ=>Cl.pE m
 rcases rB l with rfl | rfl | rfl | rfl | rfl | rfl
 ·exact g (pb rfl) (Hd Z b es c f n w (xv i) (d:=d))
 ·exact g (pb rfl) (Hh Z b es c f n w (d:=d))
 ·exact g (pb rfl) (He Z b es c f n w (d:=d))
 ·exact g (pb rfl) (Hf Z b es c f n w (d:=d))
 ·exact g (ed d 52) (Hj Z b es c f n _)
 ·exact Hi Z b es c f (o rfl) n w j i
def Od(Z)(b)(es)(ok:a8 es)(n){i}(w:Wf i)(F:br i<=31)(A:n+i.length<=100000){d}:RW (C (d+53) 554 [.ref 0,.str (bk b),.ref 3] (RS (Zt Z es) n i)) (SP Z) (mS b es n i):=by
 match i,w with
 | t::r,w=>
 refine (?_:RW _ _ (cond (cR t.k) (cond _ _ (cond (t.k==15 && !told es "type") _ (d4 b es t.k _ r))) _))
 have st:∀q,Sem _ (ao 0 _ (ko b _) _ _ _) q->C (d+53) 554 [.ref 0,.str _,.ref 3] (RS (Zt Z es) n _) q:=λ q h=>
  hC.go 0 (.call rfl (Hg _ n t r w.nz) (.cv rfl h))
 cases q:cR t.k with
 | false=>
  rw [q] at st;exact .bad es (st _ ((.call ⋯ (Ky (Zt Z es) n t r w.nz) (.ret ⋯))))
 | true=>
 rw [q] at st;have a:=a_.step (n:=n) w λ z=>by rw [z] at q;cases q
 rw [dx] at A
 have p:Sem (C (d+52)) (ev (.prim (.cmp .Eq) [.loc 4,.lit (.str "")]) (ko b (txt t.k)) (RS (Zt Z es) n (t::r))) (.ok (.bool false) (RS (Zt Z es) n (t::r))):=by
  have z:=bj (f:=λ k=>cond (cR k) (mV (bL lf T0 100 0) (ev (.prim (.cmp .Eq) [.loc 4,.lit (.str "")]) (ko b (txt k)) (RS (Zt Z es) n (t::r)))) none) (g:=λ k=>cond (cR k) (some (R.ok (V.bool false) (RS (Zt Z es) n (t::r)))) none) ⋯ w.nz;simp only [q] at z;exact Cl.ex 0 z
 have l:Sem (C (d+52)) (ev (.prim (.cmp .Eq) [.loc 4,.lit (.str "elements")]) (ko b (txt t.k)) (RS (Zt Z es) n (t::r))) (.ok (.bool (t.k==15)) (RS (Zt Z es) n (t::r))):=by
  have z:=bj (f:=λ k=>cond (cR k) (mV (bL lf T0 100 0) (ev (.prim (.cmp .Eq) [.loc 4,.lit (.str "elements")]) (ko b (txt k)) (RS (Zt Z es) n (t::r)))) none) (g:=λ k=>cond (cR k) (some (R.ok (V.bool (k==15)) (RS (Zt Z es) n (t::r)))) none) rfl w.nz;simp only [q] at z;exact Cl.ex 0 z
 have j:Sem (C (d+52)) (ev (.prim (.cmp .In) [.loc 4,.loc 2]) (ko b (txt t.k)) (RS (Zt Z es) n (t::r))) (.ok (.bool (told es (txt t.k))) (RS (Zt Z es) n (t::r))):=ah (.ret ⋯) (wo _);show RW _ (SP Z) (cond (told es (txt t.k)) _ _);cases s:told es (txt t.k) with
 | true=>rw [s] at j;exact .bad es (st _ (aI p (ak true j (.call ⋯ (hV (Zt Z es) n t r "You can only specify this once") (.ret ⋯)))))
 | false=>
 rw [s] at j
 have o:(t.k==15 && !told es "type")=false->Sem _ (ev _ (ko b (txt t.k)) _) _->RW (C (d+53) 554 _ _) (SP Z) _:=λ y c=>by
  exact (KH Z b es ok q s (λ e=>by rw [e] at y;exact Eq.symm ((λ {x y}=>Bool.not_inj_iff.mp) (id (Eq.symm y)))) (n+1) a.wf (ag a.br F) (ag (b1 (kU ..)) A) (d:=d)).pre λ u E=>st _ (aI p (aI j (aI c (fV (v:=tv t) (.call rfl (jz (Zt Z es) n t r) .rr) E))))
 cases B:t.k==15 with
 | false=>rw [B] at l o;exact o rfl (d_ l)
 | true=>
  rw [B] at l o;have m:Sem _ (ev _ (ko b (txt t.k)) _) (.ok _ (RS (Zt Z es) n (t::r))):=(ah (.ret (r:=.ok [.str "type",.ref 3] _) rfl) (t_ _):Sem (C (d+52)) (ev (.prim _ [.lit (.str "type"),.loc 2]) _ (RS (Zt Z es) n (t::r))) _);cases D:told es "type" with
  | true=>rw [D] at m o;exact o rfl (bQ l m)
  | false=>
   rw [D] at m;cases b with
   | false=>exact .bad es (st _ (aI p (aI j (ak true (bQ l m) (.call ⋯ (hV (Zt Z es) n t r (gR false)) (.ret ⋯))))))
   | true=>exact .bad es (st _ (aI p (aI j (ak true (bQ l m) (.call rfl (hV (Zt Z es) n t r _) (.ret ⋯))))))
end
section
def rD:cg 0=false:=rfl
variable{n m:Nat}{rest:List Tk}
def Df(w:Wf rest){u}{r}(h:gN n rest= .ok u m r):a_ n rest m r:=by
 have z:(gN n _).good n _:=b_ (λ ζ=>c9 rD _ n w) λ ζ=>trivial;rw [h] at z;exact z
variable{es:List Td}
def qz:∃l:List Str,look es "flags" (.tup [])= .tup (l.map .str)/\l.length<=4:=by
 induction es with
 | nil=>exact {[],rfl,by simp}
 | cons e es a=>
  cases e with
  | fl b=>
   refine {([0,1,2,3].filter λ i=>b.contains i).map bG,?_,by rw [cJ];exact ag (Bv _ _) ⋯};rw [uX];rfl
  | _=>exact a
def wu(h:∀e∈es,e.ok):∃i,look es "timeout" (.int 0)= .int i/\0<=i:=by
 induction es with
 | nil=>exact {0,rfl,by simp}
 | cons e es a=>
  cases e with
  | tm i=>exact {i,rfl,h _ (.head _)}
  | _=>exact a λ e m=>h e (.tail _ m)
def xH(h:∀e∈es,e.ok):∃l,look es "elements" (.tup [])= .tup l/\l.length<=200000:=by
 induction es with
 | nil=>exact {[],rfl,by simp}
 | cons e es a=>
  cases e with
  | el l=>exact {l,rfl,h _ (.head _)}
  | _=>exact a λ e m=>h e (.tail _ m)
def getD_some{o:Option V}{a}{l}(h:o.getD (.tup [])= .tup (a::l)):o=some (.tup (a::l)):=by
 cases o with
 | none=>cases h
 | some v=>exact congrArg _ h
def iI(es:List Td):V:=cond (tmq es && !tmin es) (.tup (flq es++ [.str "timeout"])) (.tup (flq es))
where
 tmq (es:List Td):Bool:=match look es "timeout" (.int 0) with | .int i=>i !=0 | _=>false
 flq (es:List Td):List V:=match look es "flags" (.tup []) with | .tup l=>l | _=> []
 tmin (es:List Td):Bool:=(flq es).any λ v=>match v with | .str s=>s== "timeout" | _=>false
def dm(es:List Td):V:=.tup [look es "type" .none,look es "data" .none,iI es,look es "timeout" (.int 0),look es "size" (.int 0),.bool (told es "auto-merge")]
noncomputable def ia(b:Str)(a:V):V:=.tup [.str "add",.str b,.str "inet",.str "t",.str "s",a]
def fM(b:Bool)(es:List Td):List V:=match look es "elements" (.tup []) with
 | .tup (a::l)=> [ia (bk b) (dm es),ia "element" (.tup (a::l))]
 | _=> [ia (bk b) (dm es)]
def M4(N:Nat):Kn:=λ a b=>ao N (dK.body.drop 3) a b aM aP
def Cv(b:Bool):En:= [some (.ref 0),some (.str (bk b)),some (.ref 3),none,none]
def GY{b}(ok:a8 es)(w:Wf rest)(e:n+rest.length<=100000){es'}{r'}(h:mS b es n rest= .ok es' m r'):a8 es'/\a_ n rest m r'/\n+1<=m:=by
 cases rest with
 | nil=>contradiction
 | cons t r=>
 have h:cond (cR t.k) (cond _ _ (cond (t.k==15 && !told es _) _ (d4 b es t.k _ r))) _= .ok es' m r':=h;cases q:cR t.k with
 | false=>simp only [q] at h;contradiction
 | true=>
 rw [q] at h;cases c:told es _ with
 | true=>rw [c] at h;contradiction
 | false=>
 have h:=c▸h;cases d:t.k==15 && !told es _ with
 | true=>rw [d] at h;contradiction
 | false=>
 rw [d] at h;have a:=a_.step (n:=n) w λ z=>by rw [z] at q;contradiction
 have z:=Dg ok q c a.wf (ag (b1 a.eq) e) _ _ _ h;exact {z.1,a.trans z.2,z.2.le}
inductive BL(c:Cm)(S:List Td->Nat->List Tk->St)(K:St->bX)(n:Nat)(rest:List Tk)(T:bX):Rs (List Td)->Prop
 | bad (y:Str) (m:Nat) (r:List Tk) (es:List Td) (h:Sem c T (.ex (.exc y (a7 r).row (a7 r).col) (S es m r))):BL c S K n rest T (.bad y m r)
 | ok (es:List Td) (m:Nat) (r:List Tk) (o:a8 es) (a:a_ n rest m r) (h:∀q,Sem c (K (S es m r)) q->Sem c T q):BL c S K n rest T (.ok es m r)
section
variable{c:Cm}{S:List Td->Nat->List Tk->St}{K:St->bX}
def BL.pre{f d r m T e x}(b:BL c S K f d T x)(a:a_ m r f d)(h:∀q,Sem c T q->Sem c e q):BL c S K m r e x:=by
 cases b with
 | bad y m r es g=>exact .bad y m r es (h _ g)
 | ok es m r o i g=>exact .ok es m r o (a.trans i) λ q k=>h q (g q k)
noncomputable def BP(c:Cm)(T:bX)(T2:St->bX):R V->Prop
 | .ok _ a=>∀q,Sem c (T2 a) q->Sem c T q
 | .ex e a=>Sem c T (.ex e a)
def Gr{P:R V->Prop}{T:bX}{T2:St->bX}(a:∀v σ,P (.ok v σ)->∀q,Sem c (T2 σ) q->Sem c T q)(b:∀e σ,P (.ex e σ)->Sem c T (.ex e σ)):∀q,P q->BP c T T2 q:=λ q h=>by
 cases q with
 | ok v σ=>exact a v σ h
 | ex e σ=>exact b e σ h
def xW{b}{T T2:Nat->St->bX}
 (E:∀m es n t r q,t.k<nv->(t.k==2)=true->Sem c (K (S es (n+1) r)) q->Sem c (T (m+1) (S es n (t::r))) q)
 (F:∀m es n t r,(t.k==2)=false->a8 es->Wf (t::r)->br (t::r)<=31->n+(t::r).length<=100000->RW (BP c (T (m+1) (S es n (t::r))) (T2 m)) S (mS b es n (t::r)))
 (G:∀m es n r,Wf r->match gN n r with
   | .bad y A r'=>Sem c (T2 m (S es n r)) (.ex (.exc y (a7 r').row (a7 r').col) (S es A r'))
   | .ok _ A r'=>∀q,Sem c (T m (S es A r')) q->Sem c (T2 m (S es n r)) q):
 ∀f es n rest m,a8 es->Wf rest->rest.length<f->rest.length<m->br rest<=31->n+rest.length<=100000->BL c S K n rest (T m (S es n rest)) (fW b f es n rest):=by
 intro f
 induction f with
 | zero=>exact λ ζ ζ ζ ζ ζ ζ h=>absurd h (gV _)
 | succ f I=>
  intro es n rest m ok w H D B v;cases rest with
  | nil=>exact w.elim
  | cons t r=>
  cases m with
  | zero=>exact absurd D (gV _)
  | succ m=>
  refine (?_:BL _ _ _ _ _ _ (cond (t.k==2) _ _));cases q:t.k==2 with
  | true=>exact .ok es _ r ok (a_.step w λ z=>by simp_all) λ J=>E m es n t r J w.nz q
  | false=>
   have z:=F m es n t r q ok w B v;have g:=λ e x r'=>GY (b:=b) ok w v (es':=e) (m:=x) (r':=r')
   revert z g
   cases mS b es n _ with
   | bad y l s=>exact λ z ζ=>by cases z with | bad d h=>exact .bad y l s d h
   | ok d l s=>
    intro z g;cases z with
    | ok z=>
    have g:=g _ _ _ rfl;have j:=G m d l s g.2.1.wf;have p:=λ u x r'=>Df (n:=l) g.2.1.wf (u:=u) (m:=x) (r:=r');refine (?_:BL _ _ _ _ _ _ (Rs.bind _ _))
    revert j p
    cases gN l s with
    | bad y o i=>exact λ j ζ=> .bad y o i d (z _ j)
    | ok u o i=>
     intro j p;have a:=g.2.1.trans (p u o i rfl);have e:=a.eq;have k:i.length<(t::r).length:=Nat.lt_of_add_lt_add_left (o4 (Nat.add_lt_add_right (ag g.2.2 (p u o i rfl).le) _) (b1 e));exact (I d o i m g.1 a.wf (o4 k (Bk H)) (o4 k (Bk D)) (ag a.br B) (ag (b1 e) v)).pre a λ q h=>z q (j q h)
end
section
def Hu(Z)(N)(b){d}:∀f es n rest m,a8 es->Wf rest->rest.length<f->rest.length<m->br rest<=31->n+rest.length<=100000->
 BL (C (d+53)) (SP Z) (M4 N (Cv b)) n rest (W N (yC (aY dK 2)) (yB (aY dK 2)) (M4 N) m (Cv b) (SP Z es n rest)) (fW b f es n rest):=
 xW
  (T2:=λ m c=>ao N _ _ c _ _)
  (λ m es n t r q h e=>fR (.call rfl (fX _ n "}" _ (tG _ n t r h e)) .rr))
  (λ m es n t r e ok w g i=>(Od Z b es ok n w g i).pre (Gr (λ v c h q k=>fQ (.call rfl (fX _ n "}" _ (tG _ n t r w.nz e)) .rr) (.call (q:=.ok v c) rfl h (.cv rfl k)))
    λ o c h=>fQ (.call rfl (fX _ n "}" _ (tG _ n t r w.nz e)) .rr) (.call rfl h .rr)))
  λ m es n r w=>by
   have a:=KC (Zt Z es) n w (d:=d+46)
   revert a
   cases gN n r with
   | bad y j l=>exact λ a=> .call rfl a .rr
   | ok u j l=>exact λ a q h=> .call rfl a (.cv rfl h)
end
end
section
theorem lG:∀l,strsOf (l.map V.str)=some l
 | []=>rfl
 | a::l=>by
  refine (?_:(ae (some a) λ x=>ae (strsOf _) λ r=>some _)=_);rw [lG l];rfl
def BO{es}{l:List Str}{i}(b:look es "flags" (.tup [])= .tup (l.map .str))(c:look es "timeout" (.int 0)= .int i):iI es=cond (!(i==0) && !(l.any λ x=>x== "timeout")) (.tup (l.map .str++ [.str "timeout"])) (.tup (l.map .str)):=by
 have a:iI.flq es=l.map .str:=by unfold iI.flq;rw [b]
 unfold iI;simp [a,(by unfold iI.tmq;rw [c];rfl:iI.tmq es= !i==0),(by unfold iI.tmin;rw [a,List.any_map];rfl:iI.tmin es=l.any λ x=>x== "timeout")]
variable{σ:St}
def BG(x)(l:List Str):prim (.cmp .NotIn) σ [.str x,.tup (l.map .str)]=some (.bool !(l.any λ y=>y==x)):=by
 rw [(rfl:prim _ σ _=hF (rk (oe (ae (strsOf _) _) none))),lG];rfl
def xZ{l m}(h:l.length+m.length<=1000000):prim (.bin .Add) σ [.tup l,.tup m]=some (.tup (l++m)):=if_pos h
def rP(b:Bool)(f:V)(s:Option V):En:= [some (.ref 0),some (.str (bk b)),some (.ref 3),some f,s]
section
variable{rest:List Tk}{d:Nat}
def Hv(Z:Px)(N)(b:Bool)(es)(ok:a8 es)(n)(w:Wf rest):Sem (C (d+53)) (M4 N (Cv b) (RS (Zt Z es) n rest))
 (cond (told es "type") (.ok (.tup [dm es,look es "elements" (.tup [])]) (RS (Zt Z es) n rest)) (.ex (.exc (gR b) (a7 rest).row (a7 rest).col) (RS (Zt Z es) n rest))):=by
 have c:Sem (C (d+53)) (ev (.prim _ [.lit (.str "type"),.loc 2]) (Cv b) (RS (Zt Z es) n rest)) _:=ah .rr (t_ _);cases m:told es _ with
 | false=>
  rw [m] at c
  match rest,w with
  | t::r,w=>cases b with
   | false=>exact ak _ c (.call rfl (hV _ n t r _) .rr)
   | true=>exact ak true c (.call rfl (hV _ n t r _) .rr)
 | true=>
 rw [m] at c;refine qz (es:=es).elim λ l o=>((wu ok.ok).elim λ i g=> ?_);refine (n_ m).elim λ D z=> ?_
 have get:∀(x:Str) (v:V) (X:X) (p:En),ay p 2=some _->Sem _ _ _->Sem (C (d+53)) (ev (.met _ (.loc 2) [.lit _,X]) p (RS (Zt Z es) n rest)) _:=λ x v X p B h=>
  p7 (by show Sem _ (iY _ _) _;rw [B];exact .rt _) rfl (ai .rr (ai h .rr)) (ub x v)
 have a:∀f,Sem _ (ao N (dK.body.drop 6) (rP b f none) _ aM aP) (.ok (.tup [.tup [look es "type" .none,look es "data" .none,f,look es "timeout" (.int 0),look es "size" (.int 0),.bool (told es "auto-merge")],look es "elements" (.tup [])]) _):=λ f=>aV (v:=.tup [look es "type" .none,look es "data" .none,f,look es _ _,look es "size" _,.bool (told es _)]) (ρ':=rP b f (some (.tup [look es "type" .none,look es "data" .none,f,look es "timeout" (.int 0),look es "size" (.int 0),.bool (told es "auto-merge")])))
  (ah (ai (ah .rr (rV "type" _ z.2.1)) (ai (get "data" .none _ _ rfl .rr) (ai (.ret (rfl)) (ai (get "timeout" _ _ _ rfl .rr) (ai (get "size" _ _ _ rfl .rr) (ai (ah (.ret (r:=.ok [.str "auto-merge",.ref 3] _) (rfl)) (wo _)) .rr)))))) (by rw [show look es "type" .none=aW D by rw [←h9,z.2.1];rfl];kernel_rfl)) rfl (fG (ah (ai (.ret (r:=.ok (.tup [look es "type" .none,look es "data" .none,f,look es "timeout" (.int 0),look es "size" (.int 0),.bool (told es "auto-merge")]) _) ⋯) (ai (get _ _ _ _ rfl (.ret (rfl))) .rr)) ⋯))
 have A:dm es= .tup _:=rfl;rw [A,BO o.1 g.1];have s:=get "flags" (.tup []) (.prim .tup []) (Cv b) rfl (.ret ⋯);rw [o.1] at s;refine aI c (aV s (ρ':=rP b (.tup _) none) rfl ?_);have u:=get "timeout" (.int 0) (.lit _) (rP b (.tup (l.map .str)) none) rfl .rr;rw [g.1] at u;have e:Sem _ (ev (.prim (.cmp .NotEq) [.met .eH _ _,.lit (.int 0)]) _ _) (.ok (.bool !(i==0)) _):=ah (ai u (.rr)) (rfl);cases q:i==0 with
 | true=>rw [q] at e;exact aI (d_ e) (a _)
 | false=>
 rw [q] at e;have j:Sem (C (d+53)) (ev _ (rP b _ none) (RS _ n rest)) (.ok _ (RS (Zt Z es) n rest)):=(ah (.ret (r:=.ok [.str _,.tup (l.map .str)] _) rfl) (BG _ l):Sem _ (ev (.prim (.cmp .NotIn) [.lit (.str "timeout"),.loc 3]) _ _) _);cases y:l.any _ with
 | true=>rw [y] at j;exact aI (bQ e j) (a _)
 | false=>
  rw [y] at j;refine ak true (bQ e j) (aV (ρ':=rP b (.tup (l.map .str++ [.str _])) none) (ah (.ret (r:=.ok [.tup _,.tup [.str "timeout"]] (RS (Zt Z es) n rest)) ⋯) (xZ (o5 (jD (k:=0) (b:=999999) o.2 rfl) 1))) rfl (.cv ⋯ (a _)))
theorem K1(Z:Px)(b)(n)(w:Wf rest)(G:br rest<=31)(H:n+rest.length<=100000)(I:Z.xs= []):∃q,C (d+54) 561 [.ref 0,.str (bk b)] (RS Z n rest) q/\match bR b n rest with
 | .bad y m r=>∃es,q= .ex (.exc y (a7 r).row (a7 r).col) (RS (Zt Z es) m r)
 | .ok es m r=>a8 es/\told es "type"=true/\a_ n rest m r/\q= .ok (.tup [dm es,look es "elements" (.tup [])]) (RS (Zt Z es) m r):=by
 obtain ⟨e,s,L⟩:=Z;subst I
 match rest,w with
 | t::r,w=>
 have F:=wU (Zt {e,s,[]} []) n t r w.nz (d:=d+43);unfold bR;cases v:aG 1 t.k with
 | error y=>
  rw [aK v];exact {_,hC.go 0 (.call ⋯ (hC.go 0 (.call rfl (hC.mono (d:=d+50) (pb rfl) (a9 v F)) .rr):C _ 509 [.ref 0] (RS _ n _) _) .rr),[],rfl}
 | ok u=>
 rw [aJ v];have a:=a_.step (n:=n) w λ z=>absurd ((bM v).symm.trans z) ⋯;have f:=c9 rD r (n+1) a.wf;have i:C (d+53) 509 [.ref 0] (RS _ n _) _:=hC.go 0 (.call rfl (hC.mono (d:=d+50) (pb rfl) (a5 v F)) (.call rfl (hC.mono (dg 4 _) (Am _ _ a.wf)) .rr));refine (?_:∃q,_/\match (fW b _ [] _ _).bind λ es n r=>cond _ (.ok es n r) _ with | .bad y m r=>_ | .ok es m r=>_);have o:=ag (b1 (f.eq.trans a.eq)) H;have k:=f.len;have g:=ag f.br (ag a.br G)
 revert i o k g f
 generalize aA _ _ r=p;intro f i o k g;have B:=Hu {e,s,[]} (r.length+1) b (d:=d) (r.length+1) [] p.1 p.2 (r.length+1) a8.nil f.wf (sF k) (sF k) g o;generalize fW _ _ _ _ _=x at B ⊢;cases B with
 | bad y E J c j=>exact {_,hC.go (r.length+1) (.call ⋯ i (.cv rfl j)),c,rfl}
 | ok c E J h D j=>
  have l:=Hv {e,s,[]} (r.length+1) b c h E D.wf (d:=d);refine (?_:∃q,_/\match (cond _ _ _:Rs (List Td)) with | .bad y m r=>_ | .ok es m r=>_);cases A:told c _ with
  | true=>rw [A] at l;exact {_,hC.go (r.length+1) (.call ⋯ i (.cv rfl (j _ l))),h,A,(a.trans f).trans D,rfl}
  | false=>rw [A] at l;exact {_,hC.go (r.length+1) (.call ⋯ i (.cv rfl (j _ l))),c,rfl}
end
end
noncomputable def iA(x:Str):List Str:= ["inet","t",x]
def HS{σ}{l}(h:l.length<=cY):prim (.ek .len) σ [.tup l]=some (.int l.length):=by
 rw [(rfl:prim _ σ _=gd _ _),gd,if_pos h]
def J9{C}{ρ}{σ}{x}{l}(h:Sem C (ev x ρ σ) (.ok (.tup l) σ))(q:l.length<=200000):Sem C (ev (.prim (.cmp .Gt) [.prim (.ek .len) [x],.lit (.int 0)]) ρ σ) (.ok (.bool !l.isEmpty) σ):=by
 refine ah (ai (ah (ai h .rr) (HS (ag q ⋯))) .rr) ?_;cases l with
 | nil=>kernel_rfl
 | cons a l=>
  show some (V.bool (decide _))=_;rw [jI (by simp)];rfl
def Zk(Z:Px)(v:V):Px:={Z.toks,some (iA "s",v),Z.xs}
section
def Fg(Z)(n)(a)(b c e f){d}:C (d+1) 575 [.ref 0,b,c,e,f] (RS Z n a) (.ok (.tup [b,c,.str "inet",.str "t",e,f]) (RS Z n a)):=hC.go 0 .rr
theorem Oc(Z:Px)(b)(n){c}(w:Wf c)(j:br c<=31)(o:n+c.length<=100000)(p:Z.xs= [])(k:Z.kn=none){d}:∃q,C (d+55) 582 [.ref 0,.str "add",.str (bk b),.str "s"] (RS Z n c) q/\match bR b n c with
 | .bad y m r=>∃es,q= .ex (.exc y (a7 r).row (a7 r).col) (RS (Zt Z es) m r)
 | .ok es m r=>a8 es/\told es "type"=true/\a_ n c m r/\q= .ok (.lst (fM b es)) (RS (Zk (Zt Z es) (dm es)) m r):=by
 obtain ⟨q,g,i⟩:=K1 Z b n w j o p (d:=d);obtain ⟨e,t,u⟩:=Z;subst k
 revert i
 cases bR b n _ with
 | bad y m r=>
  rintro ⟨es,rfl⟩
  exact {_,hC.go 0 (.call rfl g .rr),es,rfl}
 | ok es m r=>
  rintro ⟨ok,s,a,rfl⟩
  refine (xH ok.ok).elim λ l f=> ?_;rw [f.1] at g
  have st:∀q,Sem _ (ao 0 (qA.body.drop 3) [some (.ref 0),some (.str "add"),some (.str (bk b)),some (.str "s"),some (dm es),some (.tup l),some (.lst [ia (bk b) (dm es)])] (RS (Zk (Zt {e,none,[]} es) (dm es)) m r) aM aP) q->C (d+55) 582 [.ref 0,.str "add",.str _,.str "s"] _ q:=λ q h=>
   hC.go 0 (.call rfl g (.call ⋯ (Fg (Zk (Zt {e,none,[]} es) (dm es)) m r (.str "add") (.str (bk b)) (.str "s") (dm es)) (.cv ⋯ h)))
  refine {.ok _ _,?_,ok,s,a,rfl};unfold fM;rw [f.1];cases l with
  | nil=>exact st _ .rr
  | cons v l=>exact st _ (ak _ (J9 .rr f.2) (.call rfl (Fg _ m r _ _ _ _) .rr))
def Ho(Z)(n j)(a)(t)(s)(e:a.drop j=t::s)(i:a≠[]){d}:C (d+1) 263 [.ref 0,.int j] (RS Z n a) (.ok (tv t) (RS Z n a)):=hC.val λ h=>by
 refine (h _ (.head _)).elim λ f b=> ?_;have c:=jr (by rw [←A6,f,←List.map_drop,e];rfl);have g:=(di.mp c).1;exact Cl.b6 0 _ [some _,some _,none] rfl rfl (d9 (ah (ai .rr (ai (ah .rr (fb (lb b))) .rr)) (D9 (sv.mpr g))) (fG (ah .rr (dj b c))))
theorem Ak(Z)(N n)(a)(o:a≠[]){d}:∀(s) (j m),a.drop j=s->Wf s->s.length<m->Sem (C (d+1)) (W N (yC (aY g_ 1)) (yB (aY g_ 1)) (λ ρ σ=>ao N (g_.body.drop 2) ρ σ aM aP) m [some (.ref 0),some (.int j)] (RS Z n a)) (.ok (.bool (hR s)) (RS Z n a))
 | [],_,_,_,w,_=>w.elim
 | _::_,_,0,_,_,h=>absurd h (gV _)
 | t::s,j,m+1,e,w,h=>by
  have l:=Ho Z n j _ t s e o (d:=d);obtain ⟨k,i,b⟩:=t;refine (?_:Sem _ _ (R.ok (V.bool (!k==0 && (!k==2 && (k==8 || hR s)))) _));cases q:k==0 with
  | true=>
   cases gU q;exact fR (.call rfl l .rr) .rr
  | false=>
   have c:=Sem.call rfl l (.call ((λ q=>q▸(bj (f:=λ k=>cond (k==0) none ((ev (yC (aY _ 1)) [some (.ref 0),some _] (RS Z n _)).nx (.ok (aH k i b) (RS Z n _))).hd) (g:=λ k=>cond (k==0) none (some (263,[.ref 0,.int j],RS Z n a))) ⋯ w.nz)) q) l (.ret ((λ q=>by
   have z:=bj (f:=λ k=>cond (k==0) none (((ev (yC (aY g_ 1)) [some (.ref 0),some (.int j)] (RS Z n a)).nx (.ok (aH k i b) (RS Z n a))).nx (.ok (aH k i b) (RS Z n a))).rt) (g:=λ k=>cond (k==0) none (some (.ok (.bool !k==2) (RS Z n a)))) ⋯ w.nz
   exact q▸z) q)))
   cases p:k==2 with
   | true=>rw [p] at c;exact fR c .rr
   | false=>
    rw [p] at c;refine fQ c (ak _ (.call rfl l (.ret (bj (f:=λ k=>((ev _ _ _).nx (.ok (aH k i b) _)).rt) (g:=λ k=>some (.ok (.bool (k==8)) (RS Z n _))) ⋯ w.nz))) ?_);cases k==8 with
    | true=>exact .rr
    | false=>
     exact .cv rfl (Ak Z N n _ o s _ m (by rw [←A6,e];rfl) (w.tl λ z=>by simp_all) (qu h))
def Oo(Z)(n){a}(w:Wf a){d}:C (d+2) 568 [.ref 0] (RS Z n a) (.ok (.bool (hR a)) (RS Z n a)):=
 hC.go _ (.cv rfl (Ak Z _ n _ (λ e=>by rw [e] at w;exact w) _ 0 _ rfl w (j8 _)))
end
noncomputable def dk(v:Nat):Str:= ["add","delete","destroy"].getD v ""
def ip(is:List Nat)(d:Option Dt):V:=.tup [aW is,hg d,.tup [],.int 0,.int 0,.bool false]
def c_(v:Nat)(is:List Nat)(d:Option Dt)(n:Nat)(a:List Tk):Rs (List V):=cV is (cond (!(v==0) && !hR a) none d) (2*a.length+2) n a
section
def Af(c:Unit)(v)(f:v<3)(e)(b)(a){d}:C (d+3) 589 [.ref 0,.str (dk v),.str "s"] (RS ⟨tv b::a.map tv,some (iA "r",e),[]⟩ 1 a) (.ex (.exc "No such file or directory" b.row b.col) (RS ⟨tv b::a.map tv,some (iA "r",e),[]⟩ 0 (b::a))):=
 hC.go 0 (.call ⋯ (hV _ 0 b _ "No such file or directory") .rr)
def Hw(Z)(v)(u:v<3)(is)(d0)(h:gG is d0)(s:Z.kn=some (iA "s",ip is d0))(n){a}(w:Wf a)(p:br a<=31)(t:n+a.length<=100000){d}:C (d+53) 589 [.ref 0,.str (dk v),.str "s"] (RS Z n a) (aw (RS Z) .tup (c_ v is d0 n a)):=by
 obtain ⟨b,z,k⟩:=Z;subst s;have x:=uG {b,some (iA "s",ip is d0),k} n d0 h.da a (d:=d+51);have pk:=rg {b,some (iA "s",ip is d0),k} n is h.ki h.kl a (d:=d+51);have f:=Oo {b,some (iA "s",ip is d0),k} n w (d:=d+50)
 have c:∀v g,gG is g->Sem (C (d+52)) (ao 0 (gZ.body.drop 5) [some (.ref 0),some (.str (dk v)),some (.str "s"),some (.tup [.str "inet",.str "t",.str "s"]),some (ip is d0),some (kD g)] (RS _ n a) aM aP) (aw _ .tup (cV is g _ n _)):=λ v g o=>by
  have j:=Ah {b,some (iA "s",ip is d0),k} n is g o w p t (e:=d)
  revert j
  cases cV is g _ n _ with
  | bad y m r=>exact λ j=> .call rfl pk (.call rfl j .rr)
  | ok l m r=>exact λ j=> .call rfl pk (.call rfl j .rr)
 refine (λ q h=>hC.go 0 (.call rfl x (.cv rfl h)):∀q,Sem _ _ q->C (d+53) 589 _ _ q) _ ?_;have i:gG is none:={h.ki,h.kl,λ ζ e=>by lia};refine Fw (P:=λ v=>Sem _ (ao 0 _ [_,some (.str (dk v)),_,_,_,_] _ _ _) (aw _ _ (cV is (cond (!v==0 && _) _ _) _ _ _))) u ((c 0 d0 h)) ?_ ?_
 ·cases q:hR _ with
  | true=>rw [q] at f;exact aI (.call rfl f .rr) (c 1 d0 h)
  | false=>rw [q] at f;exact ak true (.call ⋯ f .rr) (.cv ⋯ (c 1 none i))
 ·cases q:hR _ with
  | true=>rw [q] at f;exact aI (.call rfl f .rr) (c 2 d0 h)
  | false=>rw [q] at f;exact ak true (.call rfl f .rr) (.cv ⋯ (c 2 none i))
end
noncomputable def JW(b:Bool):Str:=cond b ";\n" "\n"
def r8(b:Bool):Nat->Bool:=cond b cg aT
def N0(b:Bool):r8 b 0=false:=by cases b<;>rfl
def ym{C:Cm}{ρ:En}{σ:St}{c a b:X}{r:R V}(t:Bool)(h:Sem C (ev c ρ σ) (.ok (.bool t) σ))(k:Sem C (cond t (ev a ρ σ) (ev b ρ σ)) r):Sem C (ev (.cM c a b) ρ σ) r:=aC h k
section
variable{d:Nat}
def tJ(Z:Px)(n:Nat)(t:Tk)(r:List Tk):C (d+1) 721 [.ref 0] (BS Z n (t::r)) (.ok (tv t) (BS Z n (t::r))):=Gn
def ry(Z:Px)(n:Nat)(t:Tk)(r:List Tk):C (d+1) 749 [.ref 0] (BS Z n (t::r)) (.ok (.str (txt t.k)) (BS Z (n+1) r)):=xU
def gw(Z:Px)(n:Nat)(t:Tk)(r:List Tk)(w:Str):C (d+2) 728 [.ref 0,.str w] (BS Z n (t::r)) (.ok (.exc w t.row t.col) (BS Z n (t::r))):=Cl.dp 1 rfl
theorem xf(Z:Px)(b:Bool):∀(a:List Tk) (n m:Nat),Wf a->a.length<m->Sem (C (d+2)) (W 0 (yC (aY jb 0)) (yB (aY jb 0)) aM m [some (.ref 0),some (.str (JW b))] (BS Z n a)) (.ok .none (BS Z (aA (r8 b) n a).1 (aA (r8 b) n a).2))
 | [],_,_,w,_=>w.elim
 | t::r,n,0,_,h=>absurd h (gV _)
 | t::r,n,m+1,w,h=>by
  have c:Sem (C (d+2)) (ev (yC (aY jb 0)) [some (.ref 0),some (.str (JW b))] (BS Z n (t::r))) (.ok (.bool (r8 b t.k)) (BS Z n (t::r))):=by
   cases b with
   | false=>exact Cl.f3 (F:=λ k=>ev _ _ (bW Z n (aH k _ _::r.map tv))) (G:=λ k=> .ok (.bool _) (bW Z n (aH k _ _::r.map tv))) 1 ⋯ w.nz
   | true=>exact Cl.f3 (F:=λ k=>ev _ _ (bW Z n (aH k _ _::r.map tv))) (G:=λ k=> .ok (.bool _) (bW Z n (aH k _ _::r.map tv))) 1 ⋯ w.nz
  have e:aA _ n (t::r)=cond _ (aA (r8 b) _ r) _:=rfl;rw [e];cases q:r8 b t.k with
  | false=>rw [q] at c;exact fR c .rr
  | true=>
   rw [q] at c;exact fQ c (.cv rfl (xf Z b r (n+1) m (w.tl λ z=>by rw [z,N0] at q;cases q) (qu h)))
variable{rest:List Tk}
def m9(Z:Px)(b:Bool)(n:Nat)(w:Wf rest):C (d+3) 770 [.ref 0,.str (JW b)] (BS Z n rest) (.ok .none (BS Z (aA (r8 b) n rest).1 (aA (r8 b) n rest).2)):=
 Cl.b6 (rest.length+1) _ [some _,some _] rfl rfl (.cv rfl (xf Z b _ n _ w (j8 _)))
def LD(Z:Px)(n:Nat)(w:Wf rest):C (d+7) 777 [.ref 0] (BS Z n rest) (aw (BS Z) (λ ζ=> .none) (gN n rest)):=by
 match rest,w with
 | t::r,w=>
  refine Cl.b6 0 _ _ rfl ⋯ (dn (Cl.f3 (F:=λ k=>ev _ [some (.ref 0)] (bW Z n (aH k _ _::r.map tv))) (G:=λ k=> .ok (.bool !(cg k || k==0 || k==2)) (bW Z n (aH k t.row t.col::r.map tv))) 2 ⋯ w.nz) ?_);have e:gN n (t::r)=cond (cg t.k || t.k==0 || t.k==2) _ _:=rfl;rw [e];cases cg t.k || t.k==0 || t.k==2 with
  | true=>exact .call rfl (m9 Z true n w) .rr
  | false=>exact .call rfl (LC Z n t r w.nz) .rr
def A1(Z:Px)(n i:Nat)(hi:i<4)(a:Int)(t:Tk)(r:List Tk)(h:t.k<nv):C (d+11) 848 [.ref 0,kL i,.int a] (BS Z n (t::r)) (aw (BS Z) .int (c3 i a n (t::r))):=by
 have c:Sem (C (d+10)) (ev _ _ (BS Z n (t::r))) (.ok _ (BS Z n (t::r))):=
  Cl.f3 (F:=λ k=>ev (.prim (.cmp .NotIn) [.prim .item [.call 721 [.loc 0],.lit (.int 0)],.prim .tup [.lit (.str "word"),.lit (.str "string")]]) [some (.ref 0),some (kL i),some (.int a),none] (bW Z n (aH k _ _::r.map tv))) (G:=λ k=> .ok (.bool !b2 k) (bW Z n (aH k _ _::r.map tv))) 1 ⋯ h
 refine Cl.b6 0 j_ [some (.ref 0),some (kL i),some (.int a),none] rfl (rfl) ?_;cases b:b2 t.k with
 | false=>
  rw [gq (if_neg (by rw [b];exact cK))];rw [b] at c;exact dn c (.call rfl (AR Z n t r h) .rr)
 | true=>
  rw [b] at c;refine d9 c ?_;have e:=OM Z n (d:=d+4) i hi t r h b;refine aV (v:=lv i t.k) (ρ':= [some (.ref 0),some (kL i),some (.int a),some (lv i t.k)]) (σ':=BS Z n (t::r)) (.call rfl (tJ Z n t r) (.call rfl (AS Z n i hi t r h b) .rr)) (rfl) ?_
  have f:∀u,C _ 841 _ _ u->Sem (C (d+10)) (ev (.call 841 [.loc 0,.loc 1,.cM (.prim .iE [.loc 3]) (.lit .none) (.prim .tup [.loc 3,.loc 3])]) [some (.ref 0),some (kL i),some (.int a),some (lv i t.k)] (BS Z n (t::r))) u:=λ u g=>
   aC (ai (v:=.ref 0) .rr (ai (v:=kL i) .rr (ai (by
   show Sem _ (cond _ _ _) (R.ok (cond (ef (lv i t.k)) V.none (V.tup [lv i t.k,lv i t.k])) _)
   cases ef (lv i t.k)<;>exact .ret ⋯) .rr))) (.cl g .rr)
  cases v:b8 i t.k with
  | error w=>
   rw [v] at e;rw [gq v];exact aC (aC (aC (f _ e) rfl) rfl) rfl
  | ok q=>
   rw [v] at e;rw [j0 v];refine aV (v:=.int q.1) (ρ':= [some (.ref 0),some (kL i),some (.int a),some (.int q.1)]) (σ':=BS Z n (t::r)) (ah (ai (f _ e) (ai (v:=.int 0) .rr .rr)) ⋯) ⋯ (ak (decide (q.1<a)) (.ret ⋯) ?_);cases decide (q.1<a) with
   | true=>exact .call ⋯ (gw Z n t r "Range negative size") (.ret ⋯)
   | false=>exact .ret ⋯
def yW(Z:Px)(n i:Nat)(hi:i<4)(t:Tk)(r:List Tk)(h:t.k<nv):C (d+11) 848 [.ref 0,kL i,.int 0] (BS Z n (t::r)) (aw (BS Z) (λ p:Int×Int=> .int p.1) (one (b8 i) n (t::r))):=by
 have p:=A1 Z n i hi 0 t r h (d:=d);cases v:b8 i t.k with
 | error w=>rw [gq v] at p;rw [aK v];exact p
 | ok q=>rw [j0 v,wk hi h v] at p;rw [aJ v];exact p
end
def vL(i:Nat)(a:Int):En:= [some (.ref 0),some (kL i),some (.int a)]
def FA(N:Nat):Kn:=λ a b=>ao N (fL.body.drop 1) a b aM aP
def oT(i:Nat)(t:Tk)(p:Int×Int)(x y:Option V):En:= [some (.ref 0),some (kL i),some (.str (gI t.k)),some (.str (txt t.k)),some (.bool (star i t.k)),some (bg p),x,y]
section
variable{d:Nat}
def uT(Z)(i)(hi:i<4)(a)(n)(t)(r)(h:t.k<nv):Sem (C (d+11)) (ev (yC (aY fL 0)) (vL i a) (BS Z n (t::r))) (.ok (.bool (i==1 && t.k==9)) (BS Z n (t::r))):=
 Cl.zb (F:=λ i k=>ev _ (vL i a) (bW Z n (aH k _ _::r.map tv))) (G:=λ i k=> .ok (.bool (i==1 && k==9)) (bW Z n (aH k _ _::r.map tv))) 3 ⋯ hi h
theorem A4(Z)(N:Nat):∀(b) (a) (n m),Wf b->b.length<m->Sem (C (d+11)) (W N (yC (aY fL 0)) (yB (aY fL 0)) (FA N) m (vL 1 a) (BS Z n b)) (aw (BS Z) .int (i8 a n b))
 | [],_,_,_,w,_=>w.elim
 | _::_,_,_,0,_,h=>absurd h (gV _)
 | [t],a,n,m+1,w,h=>fR ((show (t.k==9)=false from w.elim λ w=>by rw [w.1];rfl λ w=>w.2.2.elim)▸(uT Z 1 ⋯ a n t [] w.nz)) .rr
 | t::f::r,a,n,m+1,w,h=>by
  have c:=uT Z 1 ⋯ a n t (f::r) w.nz (d:=d);have e:i8 a n (t::f::r)=cond _ _ _:=rfl;rw [e];cases q:t.k==9 with
  | false=>exact fR (q▸c) .rr
  | true=>
   rw [q] at c;have g:=w.tl λ z=>by rw [z] at q;cases q
   cases v:b8 1 _ with
   | error w=>exact fQ c (.call ⋯ (a9 v (yW Z _ 1 ⋯ f r g.nz)) .rr)
   | ok p=>
    exact fQ c (.call ⋯ (a5 v (yW Z _ 1 ⋯ f r g.nz)) (.cv rfl (A4 Z N r _ _ m (g.tl λ z=>by rw [z] at v;contradiction) (xq (qu h)))))
variable{rest:List Tk}
def FL(Z)(n i)(hi:i<4)(a)(w:Wf rest):C (d+12) 855 [.ref 0,kL i,.int a] (BS Z n rest) (aw (BS Z) .int (gP i a n rest)):=by
 match rest,w with
 | t::r,w=>
  have e:gP i a n _=cond _ _ (.ok a n (t::r)):=rfl;simp [e];cases q:i==1 with
  | false=>
   have c:=uT Z i hi a n t r w.nz (d:=d);rw [q] at c;refine Cl.b6 1 _ (vL i a) rfl rfl (.cv (t:=W 1 _ (yB (aY fL 0)) (FA 1) (0+1) _ _) ⋯ (fR c .rr))
  | true=>
   have q:=gU q;subst q;exact Cl.b6 _ _ (vL 1 a) rfl rfl (.cv rfl (A4 Z _ _ a n _ w (j8 _)))
def xe(Z)(n i)(hi:i<4)(t)(p)(x y)(w:Wf rest):Sem (C (d+12)) (ao 0 (eh.body.drop 9) (oT i t p x y) (BS Z n rest) aM aP) (aw (BS Z) bg (cond (p.1==p.2) ((gP i p.1 n rest).bind λ a n r=> .ok (a,a) n r) (.ok p n rest))):=by
 refine ak _ .rr ?_;cases p.1==p.2 with
 | false=>exact .rr
 | true=>
  have b:=FL Z n i hi p.1 w (d:=d)
  revert b
  cases gP i p.1 n _ with
  | bad y m r=>exact λ b=> .call rfl b .rr
  | ok a m r=>exact λ b=> .call rfl b .rr
noncomputable def Qr:X:=.prim .item [.prim .item [.loc 0,.lit (.str "tokens")],.prim (.ek .min) [.prim (.bin .Add) [.prim .item [.loc 0,.lit (.str "at")],.lit (.int 1)],.prim (.bin .Sub) [.prim (.ek .len) [.prim .item [.loc 0,.lit (.str "tokens")]],.lit (.int 1)]]]
def LK{c:Cm}{Z:Px}{n:Nat}{b:Tk}{a:List Tk}(ρ:En)(g:Z.toks.drop n=tv b::a.map tv)(o:Z.toks.length<=100000)(wr:Wf (b::a)):∃f:Tk,(∀u h,a=u::h->f=u)/\Sem c (ev Qr (some (.ref 0)::ρ) (BS Z n (b::a))) (.ok (tv f) (BS Z n (b::a))):=by
 have j:=(di.mp (jr g)).1
 have pk:∀f:Tk,Z.toks[if n+1<Z.toks.length then n+1 else Z.toks.length-1]? =some (tv f)->Sem c (ev Qr (some (.ref 0)::ρ) (BS Z n (b::a))) (.ok (tv f) (BS Z n (b::a))):=λ f e=>
  zR (k:=n+1) (.ret ⋯) (.ret ⋯) o (FR j) e
 have i:Z.toks.drop (n+1)=a.map tv:=by rw [←A6,g];rfl
 cases a with
 | cons u h=>
  have m:=jr (show Z.toks.drop (n+1)=tv u::h.map tv from i);exact {u,λ ζ ζ e=>by cases e;rfl,pk u (by rw [if_pos (di.mp m).1];exact m)}
 | nil=>
  have l:Z.toks.length<=n+1:=List.drop_eq_nil_iff.mp i;exact {b,λ ζ ζ e=>(by cases e),pk b (by rw [if_neg (Bi l),show Z.toks.length-1=n from congrArg (· -1) (Bb l j)];exact (jr g))}
def HW(Z:Px)(n i:Nat)(hi:i<4)(t:Tk)(r:List Tk)(w:Wf (t::r))(L:b2 t.k=true)(p:Int×Int)(v:fH i t.k= .ok p)(x:Option V)(J:Z.toks.drop n=(t::r).map tv/\Z.toks.length<=100000):Sem (C (d+12)) (ao 0 (eh.body.drop 6) (oT i t p x none) (BS Z n (t::r)) aM aP) (aw (BS Z) bg (eb i n (t::r))):=by
 have h:=w.nz;have s:=w.tl λ z=>by rw [z] at L;cases L
 unfold eb;rw [se v,uO hi h];cases r with
 | nil=>exact s.elim
 | cons e f=>
 refine (LK (c:=C (d+12)) (n:=n+1) (oT i t p x none).tail (by rw [←A6,J.1];rfl) J.2 s).elim λ b y=> ?_;have N:=y.2;have Q:=y.1;refine aV N (ρ':=oT i t p x (some (tv b))) ⋯ ?_
 have l:Sem (C (d+12)) (ev (.prim (.cmp .Eq) [.loc 2,.lit (.str "string")]) (oT i t p x (some (tv b))) (BS Z (n+1) (e::f))) (.ok (.bool (isStr t.k)) (BS Z (n+1) (e::f))):=
  Cl.f3 (F:=λ k=>ev (.prim (.cmp .Eq) [.loc 2,.lit (.str "string")]) [some (.ref 0),some (kL i),some (.str (gI k)),some (.str (txt t.k)),some (.bool (star i t.k)),some (bg p),x,some (tv b)] (BS Z (n+1) (e::f))) (G:=λ k=> .ok (.bool (isStr k)) (BS Z (n+1) (e::f))) 0 ⋯ h
 have o:Sem (C (d+12)) (ev (.prim .not [.loc 4]) (oT i t p x (some (tv b))) (BS Z (n+1) (e::f))) (.ok (.bool !(star i t.k)) (BS Z (n+1) (e::f))):=.ret ⋯;have D:=xe Z (n+1) i hi t p x (some (tv b)) s (d:=d);show Sem _ _ (aw _ _ (Rs.bind (cond ((isStr t.k && !star i t.k) && ((e.k==48) && isStr (a7 f).k)) ((c3 i p.1 (n+2) f).bind λ v n r=> .ok (p.1,v) n r) (.ok p (n+1) (e::f))) _));cases I:isStr t.k with
 | false=>rw [I] at l;exact aI (d_ l) D
 | true=>
 rw [I] at l;cases H:star i t.k with
 | true=>rw [H] at o;exact aI (bQ l (d_ o)) D
 | false=>
 rw [H] at o;have A:Sem (C (d+12)) (ev (.call 742 [.loc 0,.lit (.str "word"),.lit (.str "-")]) (oT i t p x (some (tv b))) (BS Z (n+1) (e::f))) (.ok (.bool (e.k==48)) (BS Z (n+1) (e::f))):=.call ⋯ (LM Z (n+1) e f s.nz rfl) (.ret ⋯);cases B:e.k==48 with
 | false=>rw [B] at A;exact aI (bQ l (bQ o (d_ A))) D
 | true=>
 rw [B] at A;have E:=s.tl λ z=>by rw [z] at B;cases B
 cases f with
 | nil=>exact E.elim
 | cons u j=>
 cases Q u j rfl
 have M:Sem (C (d+12)) (ev (.ba true [.prim (.cmp .Eq) [.prim .item [.loc 7,.lit (.int 0)],.lit (.str "string")]]) (oT i t p x (some (tv b))) (BS Z (n+1) (e::b::j))) (.ok (.bool (isStr b.k)) (BS Z (n+1) (e::b::j))):=
  Cl.f3 (F:=λ k=>ev (.ba true [.prim (.cmp .Eq) [.prim .item [.loc 7,.lit (.int 0)],.lit (.str "string")]]) (oT i t p x (some (aH k b.row b.col))) (BS Z (n+1) (e::b::j))) (G:=λ k=> .ok (.bool (isStr k)) (BS Z (n+1) (e::b::j))) 0 ⋯ E.nz
 refine ak (isStr b.k) (bQ l (bQ o (bQ A M))) ?_;show Sem _ _ (aw _ _ (Rs.bind (cond (isStr b.k) ((c3 i p.1 (n+2) (b::j)).bind λ v n r=> .ok (p.1,v) n r) (.ok p (n+1) (e::b::j))) _));cases isStr b.k with
 | false=>exact D
 | true=>
  have q:=A1 Z (n+2) i hi p.1 b j E.nz (d:=d+1);have P:=oO (i:=i) (a:=p.1) (n:=n+2) E;show Sem _ _ (aw _ _ (Rs.bind ((c3 i p.1 (n+2) (b::j)).bind _) _))
  revert q P
  cases c3 i p.1 (n+2) (b::j) with
  | bad y m r=>exact λ q ζ=> .call ⋯ q (.ret ⋯)
  | ok v m r=>exact λ q g=> .call ⋯ q (.cv ⋯ (xe Z m i hi t (p.1,v) x (some (tv b)) g.wf (d:=d)))
end
def qj(i:Nat)(t:Tk)(a b c:Option V):En:= [some (.ref 0),some (kL i),some (.str (gI t.k)),some (.str (txt t.k)),a,b,c,none]
section
def LH(Z:Px)(n i:Nat)(hi:i<4){a:List Tk}(w:Wf a){d:Nat}:C (d+13) 862 [.ref 0,kL i] (BS Z n a) (aw (BS Z) bg (eb i n a)):=hC.val λ o=>by
 match a,w,o with
 | t::r,w,o=>
 have h:=w.nz;refine Cl.b6 0 eh [some (.ref 0),some (kL i),none,none,none,none,none,none] rfl (rfl) (aV (ρ':=qj i t none none none) (σ':=BS Z n (t::r)) (.call rfl (tJ Z n t r) .rr) (rfl) ?_)
 have m:Sem (C (d+12)) (ev _ (qj i t _ _ _) _) _:=
  Cl.f3 (F:=λ k=>ev (.prim (.cmp .NotIn) [.loc 2,.prim .tup [.lit (.str "word"),.lit (.str "string")]]) [some _,some _,some (.str (gI k)),some _,none,none,none,none] (BS Z n (t::r))) (G:=λ k=> .ok (.bool !b2 k) (BS Z n (t::r))) 0 rfl h
 cases j:b2 t.k with
 | false=>
  rw [(by unfold eb;rw [iz (if_neg (by exact j▸cK))];rfl:eb i n (t::r)= .bad (b5 t.k "value") n (t::r))];rw [j] at m;exact dn m (.call ⋯ (AR Z n t r h) (.ret ⋯))
 | true=>
 rw [j] at m;refine aI m ?_
 refine aV (v:=.bool (star i t.k)) (ρ':=qj i t (some (.bool (star i t.k))) none none) (σ':=BS Z n (t::r))
  (Cl.zb (F:=λ i k=>ev _ [some (.ref 0),some (kL i),some (.str (gI t.k)),some (.str (txt k)),none,none,none,none] (BS Z n (t::r))) (G:=λ i k=> .ok (.bool (star i k)) (BS Z n (t::r))) 0 ⋯ hi h) ⋯ ?_
 refine aV (v:=ls i t.k) (ρ':=qj i t (some (.bool (star i t.k))) (some (ls i t.k)) none) (σ':=BS Z n (t::r)) (.call ⋯ (LF Z n (d:=d+1) i hi t r h j) (.ret ⋯)) ⋯ ?_
 have b:∀x,Sem (C (d+12)) (ao 0 (eh.body.drop 5) (qj i t (some (.bool (star i t.k))) (some (Fx i t.k)) x) (BS Z n (t::r)) aM aP) (aw (BS Z) bg (eb i n (t::r))):=λ x=>by
  have p:=ON Z n (d:=d+6) i hi t r h j;cases v:fH i t.k with
  | error y=>
   have e:eb i n (t::r)= .bad y n (t::r):=by unfold eb;rw [iz v];rfl
   rw [v] at p;rw [e];exact .call ⋯ p (.ret ⋯)
  | ok q=>
   have p:=v▸p;exact aV (v:=bg q) (ρ':=oT i t q x none) (σ':=BS Z n (t::r)) (.call ⋯ p (.ret ⋯)) ⋯ (HW Z n i hi t r w j q v x (o _ (.head _)) (d:=d))
 have g:Sem (C (d+12)) (ev (.prim (.cmp .Eq) [.loc 2,.lit (.str "string")]) (qj i t (some (.bool (star i t.k))) (some (ls i t.k)) none) (BS Z n (t::r))) _:=
  Cl.f3 (F:=λ k=>ev _ [some (.ref 0),some (kL i),some (.str (gI k)),some (.str (txt t.k)),some (.bool (star i t.k)),some (ls i t.k),none,none] (BS Z n (t::r))) (G:=λ k=> .ok (.bool (isStr k)) (BS Z n (t::r))) 0 ⋯ h
 have l:Sem (C (d+12)) (ev (.ba true [.prim .not [.loc 4]]) (qj i t (some (.bool (star i t.k))) (some (ls i t.k)) none) (BS Z n (t::r))) (.ok (.bool !(star i t.k)) (BS Z n (t::r))):=.ret ⋯;have lo:=uO hi h;have c:Fx i t.k=cond (ir i t.k) (xb i t.k) (ls i t.k):=rfl;rw [lo] at c;cases u:isStr t.k with
 | false=>
  rw [u] at g c;have f:=b none;have f:=c▸f;exact aI (d_ g) f
 | true=>
 rw [u] at g c;cases s:star i t.k with
 | true=>
  rw [s] at g l c b;have f:=b none;rw [c] at f;exact aI (bQ g l) f
 | false=>
  rw [s] at g l c b;have f:=b (some (lv i t.k));rw [c] at f;refine ak true (bQ g l) ?_;refine aV (v:=lv i t.k) (ρ':=qj i t (some (.bool false)) (some (ls i t.k)) (some (lv i t.k))) (σ':=BS Z n (t::r)) (.call ⋯ (AS Z n (d:=d+2) i hi t r h j) (.ret ⋯)) ⋯ ?_;refine aV (v:=xb i t.k) (ρ':=qj i t (some (.bool false)) (some (xb i t.k)) (some (lv i t.k))) (σ':=BS Z n (t::r)) (?_) ⋯ (.cv ⋯ f);show Sem _ (cond (ef (lv i t.k)) _ _) (.ok (cond (ef (lv i t.k)) V.none (V.tup [lv i t.k,lv i t.k])) _);cases ef (lv i t.k)<;>exact .ret ⋯
end
def j1(b:Bool)(i n:Nat)(r:List Tk):Rs V:=cond b ((eb i n r).bind λ p n r=> .ok (bg p) n r) ((jX i n r).bind λ a n r=> .ok (.int a) n r)
def yp{b}{i n}{r}(w:Wf r):(j1 b i n r).good n r:=b_ (λ ζ=>(jY w).bind λ ζ ζ ζ g=> .rfl g.wf) λ ζ=>(pf w).bind λ ζ ζ ζ g=> .rfl g.wf
def sg{e}(f)(g:e->V):∀(is) (b) (n) (r),bZ (λ i n r=>(f i n r).bind λ a n r=> .ok (g a) n r) b is n r=(bZ f b is n r).bind λ l n r=> .ok (l.map g) n r
 :=by
 intro d
 induction d with
 | nil=>
  exact λ ζ ζ ζ=>rfl
 | cons i is c=>
  exact λ b n r=>by
   refine (?_:(cond b _ (one _ n r)).bind _=((cond b _ (one _ n r)).bind _).bind _);cases cond b _ _ with
   | bad=>rfl
   | ok u n r=>
    refine (?_:((f i n r).bind _).bind _=((f i n r).bind _).bind _);cases f i n r with
    | bad=>rfl
    | ok a n r=>
     refine (?_:(bZ _ _ is n r).bind _=((bZ f _ is n r).bind _).bind _);refine c _ n r▸?_;cases bZ f _ is n r<;>rfl
def Mp(N:Nat):Kn:=λ a b=>ao N (fj.body.drop 2) a b aM aP
def RO(N:Nat)(l:List V)(ρ:En)(σ:St):bX:=Fo N (yT (aY fj 1)) (yB (aY fj 1)) (Mp N) l ρ σ
noncomputable def Ei(D:V)(b:Bool)(a:List V)(x:Option V):En:= [some (.ref 0),some D,some (.bool b),some (.lst a),x]
section
variable{C:Cm}{n:Nat}{ρ:En}{σ:St}
def N2{i}{b}{l}(e:ay ρ i=some (.lst l)):Sem C (ev (.mu i b) ρ σ) (.ok (.bool (l.isEmpty==b)) σ):=aX e .rr
end
section
def H7(Z)(b)(n i)(hi:i<4)(D)(f){c}(w:Wf c){d}:Sem (C (d+13)) (ev (.cM (.loc 2) (.call 862 [.loc 0,.loc 4]) (.call 855 [.loc 0,.loc 4,.call 848 [.loc 0,.loc 4,.lit (.int 0)]])) (Ei D b f (some (kL i))) (BS Z n c)) (aw (BS Z) id (j1 b i n c)):=by
 cases b with
 | true=>
  have p:=LH Z n i hi w (d:=d);refine (?_:Sem _ _ (aw _ _ ((eb i n _).bind _)))
  revert p
  cases eb i n _ with
  | bad y m r=>exact λ p=> .call rfl p .rr
  | ok q m r=>exact λ p=> .call rfl p .rr
 | false=>
  match c,w with
  | j::g,w=>
  have p:=yW Z n i hi j g w.nz (d:=d+2);refine (?_:Sem _ _ (aw _ _ ((jX i n _).bind _)));unfold jX;cases v:b8 i _ with
  | error y=>rw [aK v] at p ⊢;exact .call rfl p .rr
  | ok q=>
   rw [aJ v] at p ⊢;have e:=FL Z (n+1) i hi q.1 (w.tl λ z=>by have v:=z▸v;contradiction) (d:=d+1);refine .call rfl p ?_;show Sem _ _ (aw _ _ ((gP i q.1 _ g).bind _))
   revert e
   cases gP i q.1 _ g with
   | bad y m h=>exact λ e=> .call rfl e .rr
   | ok a m h=>exact λ e=> .call rfl e .rr
theorem A3(Z)(N)(D)(b){d}:∀(is) (e) (x) (n) (c),(∀i∈is,i<4)->Wf c->e.length+is.length<=200000->
 Sem (C (d+13)) (RO N (is.map kL) (Ei D b e x) (BS Z n c)) (aw (BS Z) (λ l=>V.tup (e++l)) (bZ (j1 b) e.isEmpty is n c))
 | [],e,x,n,c,p,w,h=>by
  refine (?_:Sem _ _ (.ok (V.tup _) _));rw [ng];exact n6 (gL rfl (ag h ⋯))
 | i::is,e,x,n,c,p,w,h=>by
  simp [dx] at h;have o:=N2 (C:=C (d+13)) (ρ:=Ei D b e (some (kL i))) (σ:=BS Z n c) (i:=3) (b:=false) rfl
  have f:∀(n) (c),Wf _->Sem _ (ao N ((yB (aY fj 1)).drop 1) _ _ _ (Mp N))
   (aw _ (λ l=>V.tup _) ((j1 b i n c).bind _)):=λ n c w=>by
   have k:=H7 Z b n i (p i (.head _)) D e w (d:=d);have B:=yp (b:=b) (i:=i) (n:=n) w
   revert k B
   cases j1 b i n _ with
   | bad y m r=>exact λ k ζ=>oi rfl k
   | ok a m r=>
    intro k g;have q:=A3 Z N D b is (e++ [a]) (some (kL i)) m r (λ j m=>p j (.tail _ m)) g.wf (by rw [hH];exact ag (b1 (kU ..)) h) (d:=d);rw [qY] at q;refine (?_:Sem _ _ (aw _ _ ((bZ _ _ is m r).bind λ l n r=> .ok (a::l) n r)));simp only [fP];simp [jJ] at q;exact gM rfl k (ag (ag (ed ..) h) ⋯) q
  cases s:e.isEmpty with
  | true=>rw [s] at o;exact aI o (f n _ w)
  | false=>
   rw [s] at o;refine ak _ o ?_
   match c,w with
   | t::r,w=>
    have A:=H4 Z n t r w.nz (d:=d+6);refine (?_:Sem _ _ (aw _ _ (Rs.bind (one _ n _) _)));cases v:aG 7 t.k with
    | error y=>rw [aK v];exact .call rfl (a9 v A) .rr
    | ok u=>rw [aJ v];exact .call rfl (a5 v A) (.cv rfl (f _ r (w.tl λ z=>absurd (bM v) (by rw [z];decide))))
def FK(Z)(n)(b)(is)(hi:∀i∈is,i<4)(c:is.length<=200000){a}(w:Wf a){d}:C (d+14) 869 [.ref 0,.lst (is.map kL),.bool b] (BS Z n a) (aw (BS Z) V.tup (bZ (j1 b) true is n a)):=Cl.b6 0 _ [some _,some _,some _,none,none] rfl rfl (.cv rfl (mR (kI .rr rfl (jD (k:=0) c rfl)) (A3 Z 0 _ b is [] _ n _ hi w (by simp_all))))
def OO(Z)(n)(is)(hi:∀i∈is,i<4)(b:is.length<=200000){a}(w:Wf a){d}:C (d+14) 869 [.ref 0,.lst (is.map kL),.bool true] (BS Z n a) (aw (BS Z) (λ l=>V.tup (l.map bg)) (bZ eb true is n a)):=by
 have z:=FK Z n true is hi b w (d:=d);have e:bZ (j1 true) _ is n _=_:=sg _ _ is true n a;simp [e,fP] at z;exact z
def H_(Z)(n)(is)(hi:∀i∈is,i<4)(c:is.length<=200000){a}(w:Wf a){d}:C (d+14) 869 [.ref 0,.lst (is.map kL),.bool false] (BS Z n a) (aw (BS Z) id (eY (.keys is) n a)):=by
 have z:=FK Z n false is hi c w (d:=d);have e:bZ (j1 false) _ is n _=_:=sg jX _ is true n a;simp [e,fP] at z;have b:aw _ id (eY (.keys is) n _)=aw (BS Z) _ (bZ jX _ is n a):=fP _;simp [b];exact z
def H9(Z)(n){a}(w:Wf a){d}:C (d+8) 876 [.ref 0] (BS Z n a) (aw (BS Z) id (eY .cU n a)):=by
 have e:aw _ id (eY .cU n _)=aw (BS Z) eF (oj n a):=fP _;simp [e]
 match a,w with
 | ⟨k,c,b⟩::r,w=>
 cases q:k==28 || k==29 with
 | false=>
  have z:=HV Z n (d:=d) _ r w.nz q;have e:oj n (⟨k,c,b⟩::r)=cond (k==26 || k==27) _ (cond (k==28 || k==29) _ _):=rfl;simp [e,q]
  revert z
  cases k==26 || k==27<;>exact id
 | true=>
  have h:=w.tl λ z=>by rw [show k=0 from z] at q;contradiction
  cases r with
  | nil=>contradiction
  | cons f g=>
  rcases Bool.or_eq_true_iff.mp q with q | q
  ·have q:=gU q;subst q;have z:=DZ Z n (d:=d) c b f g h.nz;refine (?_:C _ _ _ _ (aw _ _ (cond (eO f.k) _ _)))
   revert z
   cases eO _<;>exact id
  ·have q:=gU q;subst q;have z:=DY Z n (d:=d) c b f g h.nz;refine (?_:C _ _ _ _ (aw _ _ (cond (eO f.k) _ _)))
   revert z
   cases eO _<;>exact id
end
noncomputable def pN:Option Dt->V
 | none=> .none
 | some .cU=> .str "verdict"
 | some (.keys a)=> .lst (a.map kL)
def Tc(is:List Nat)(d:Option Dt)(b:V)(c:Int)(a:Str):En:= [some (.ref 0),some (.lst (is.map kL)),some (pN d),some b,some (.int c),some (.str a)]
def Mm(is:List Nat)(d:Option Dt)(b:V)(c:Int)(a:Str)(k:Nat)(σ:St):bX:=ao 0 (i2.body.drop k) (Tc is d b c a) σ aM aP
section
variable{rest:List Tk}{d:Nat}
def AX(Z)(n)(is)(d0)(h:gG is d0)(b)(i)(g)(w:Wf rest):Sem (C (d+14)) (Mm is d0 b i g 3 (BS Z n rest)) (aw (BS Z) id (jZ d0 b i g n rest)):=by
 match d0,h with
 | none,h=>exact .rr
 | some d0,h=>
  match rest,w with
  | t::r,w=>
  have e:=xg Z n t r w.nz (d:=d+7);have j:∀u,aG 8 t.k= .ok u->Wf r:=λ u v=>w.tl λ z=>absurd (bM v) (by rw [z];decide);refine (?_:Sem _ _ (aw _ _ (Rs.bind _ _)));cases v:aG 8 t.k with
  | error y=>refine aK v▸?_;cases d0<;>exact .call rfl (a9 v e) .rr
  | ok u=>
   have e:=a5 v e;rw [aJ v];show Sem _ _ (aw _ _ (Rs.bind (eY d0 _ r) _))
   match d0,h with
   | .cU,h=>
    have c:=H9 Z (n+1) (j u v) (d:=d+6)
    revert c
    cases eY _ _ r with
    | bad y m r=>exact λ c=> .call rfl e (.call rfl c .rr)
    | ok a m r=>exact λ c=> .call rfl e (.call rfl c .rr)
   | .keys f,h=>
    have c:=H_ Z (n+1) f (h.da f rfl).1 (h.da f rfl).2 (j u v) (d:=d)
    revert c
    cases eY _ _ r with
    | bad y m r=>exact λ c=> .call rfl e (.call rfl c .rr)
    | ok a m r=>exact λ c=> .call rfl e (.call rfl c .rr)
def AY(Z)(n)(is)(d0)(h:gG is d0)(b)(a)(w:Wf rest):Sem (C (d+14)) (Mm is d0 b a "" 2 (BS Z n rest)) (aw (BS Z) id ((uv n rest).bind λ f n r=>jZ d0 b a f n r)):=by
 match rest,w with
 | t::r,w=>
 refine (?_:Sem _ _ (aw _ _ (Rs.bind (cond (t.k==16) (one _ _ r) _) _)));cases q:t.k==16 with
 | false=>exact .call rfl (AZ Z n t r w.nz q) (.cv rfl (AX Z n is d0 h b a "" w))
 | true=>
  match r,w.tl λ z=>by simp_all with
  | i::g,e=>
  have c:=LG Z (n+1) i g e.nz (d:=d+7);refine .call rfl (AZ Z n t _ w.nz q) ?_;cases v:p9 _ with
  | error y=>rw [aK v];exact .call ⋯ (a9 v c) .rr
  | ok x=>rw [aJ v];exact .call ⋯ (a5 v c) (.cv rfl (AX Z _ is d0 h b a x (e.tl λ z=>by have v:=z▸v;contradiction)))
def LL(Z)(n)(is)(d0)(h:gG is d0)(b)(w:Wf rest):Sem (C (d+14)) (Mm is d0 b 0 "" 1 (BS Z n rest)) (aw (BS Z) id ((zX n rest).bind λ i n r=>(uv n r).bind λ g n r=>jZ d0 b i g n r)):=by
 match rest,w with
 | t::r,w=>
 refine (?_:Sem _ _ (aw _ _ (Rs.bind (cond (t.k==12) _ _) _)));cases q:t.k==12 with
 | false=>exact .call rfl (A0 Z n t r w.nz q) (.cv rfl (AY Z n is d0 h b 0 w))
 | true=>
  match r,w.tl λ z=>by simp_all with
  | e::c,f=>
  have a:=AU Z (n+1) e c f.nz (d:=d+4);refine .call rfl (A0 Z n t _ w.nz q) (?_:Sem _ _ (aw _ _ (Rs.bind (one _ _ (e::c)) _)));cases v:f_ _ with
  | error y=>rw [aK v];exact .call ⋯ (a9 v a) .rr
  | ok x=>rw [aJ v];exact .call ⋯ (a5 v a) (.cv rfl (AY Z _ is d0 h b x (f.tl λ z=>by have v:=z▸v;contradiction)))
def OJ(Z)(n)(is)(d0)(h:gG is d0)(w:Wf rest):C (d+15) 883 [.ref 0,.lst (is.map kL),pN d0] (BS Z n rest) (aw (BS Z) id (hP is d0 n rest)):=by
 have b:=OO Z n is h.ki h.kl w (d:=d);have g:=i7 (f:=eb) (λ ζ ζ ζ w=>jY w) is true n _ w;refine (by cases d0<;>rfl:hP is d0 n _=(bZ _ _ is n _).bind λ a n r=>(zX n r).bind λ e n r=>(uv n r).bind λ c n r=>jZ d0 (.tup (a.map _)) e c n r)▸?_
 revert b g
 cases bZ _ _ is n _ with
 | bad y m r=>exact λ b ζ=>hC.go 0 (.call rfl b .rr)
 | ok a m r=>exact λ b g=>hC.go 0 (.call rfl b (.cv rfl (LL Z m is d0 h _ g.wf)))
end
def Fy(N:Nat):Kn:=λ a b=>ao N (aZ.body.drop 4) a b aM aP
def AQ(N m:Nat)(ρ:En)(σ:St):bX:=W N (yC (aY aZ 3)) (yB (aY aZ 3)) (Fy N) m ρ σ
def uQ(is:List Nat)(d:Option Dt)(a:List V)(b:Bool):En:= [some (.ref 0),some (.lst (is.map kL)),some (pN d),some (.lst a),some (.bool b)]
section
variable{C:Cm}{n:Nat}{ρ ρ':En}{σ σ':St}{kn kb:Kn}{r:R V}{ys b:List Y}{i:Nat}{x:X}{l:List V}
def J5{w}(e:ay ρ i=some (.lst l))(h:Sem C (ev x ρ σ) (.ok (.lst w) σ'))(q:l.length+w.length<=1000000)(k:Sem C (ao n ys (ρ.set i (some (.lst (l++w)))) σ' kn kb) r):Sem C (ao n (.pC i x::ys) ρ σ kn kb) r:=aX e (aC h (gj q k))
def GQ{u}(e:ay ρ i=some (.lst l))(h:Sem C (ev x ρ σ) (.ex u σ')):Sem C (ao n (.pC i x::ys) ρ σ kn kb) (.ex u σ'):=aX e (aC h rfl)
def DU(h:l.length<=1000000):prim (.ek .list) σ [.tup l]=some (.lst l):=if_pos h
end
section
variable{n e:Nat}{rest:List Tk}
def A2(Z)(N)(is)(d0)(a)(b)(f:a.length<=1000001)(w:Wf rest):Sem (C (e+16)) (Fy N (uQ is d0 a b) (BS Z n rest)) (aw (BS Z) .tup ((one (aG 2) n rest).bind λ ζ n r=> .ok a n r)):=by
 match rest,w with
 | t::r,w=>
 have c:=H6 Z n t r w.nz (d:=e+9);cases v:aG 2 t.k with
 | error y=>rw [aK v];exact .call rfl (a9 v c) .rr
 | ok u=>
  rw [aJ v];exact fV (.call rfl (a5 v c) .rr) (gL rfl f)
def LO(Z)(N m)(is)(d0)(f)(b)(k:b.length<=1000001)(w:Wf rest)(l:rest.length<=m)
 (next:∀g r',a_ n rest g r'->n+1<=g->r'.length<rest.length->Sem (C (e+16)) (AQ N m (uQ is d0 b true) (BS Z g r')) (aw (BS Z) .tup (yq is d0 f b g r'))):
 Sem (C (e+16)) (ao N ((yB (aY aZ 3)).drop 1) (uQ is d0 b true) (BS Z n rest) (λ ρ σ=>AQ N m ρ σ) (Fy N))
  (aw (BS Z) .tup (pn is d0 f b n rest)):=by
 delta pn
 have a:=c9 (p:=aT) rfl _ n w;refine .call rfl (m9 Z false n w) (?_:Sem _ (Tree.nx _ (.ok _ (BS Z (aA aT n _).1 (aA aT n _).2))) _)
 revert a
 generalize aA _ n _=q;obtain ⟨d,o⟩:=q;intro a
 match o,a with
 | t::r,a=>
 have h:=a.wf;have c:=a.len;simp [dx] at c;refine (?_:Sem _ _ (aw _ _ (Rs.bind (cond (t.k==6) _ _) _)));cases q:t.k==6 with
 | false=>
  cases m with
  | zero=>exact absurd (ag c l) (Bt _)
  | succ m=>
  exact .call rfl (tK Z d t r h.nz q) (.cv (t:=AQ N (m+1) _ _) rfl (fR .rr (A2 Z N is d0 b false k h)))
 | true=>
  have s:=a_.step (n:=d) h λ z=>by simp_all
  have i:=c9 (p:=aT) rfl r (d+1) s.wf;refine .call rfl (tK Z d t r h.nz q) (.call ⋯ (m9 Z false (d+1) s.wf) ?_);have j:=next _ _ ((a.trans s).trans i) (ag (ez a.le) i.le) (fZ i.len c)
  revert j
  exact λ j=> .cv rfl j
end
section
def OL(Z:Px)(is:List Nat)(d0:Option Dt)(E:gG is d0)(f:Nat):∀n a B b D,Wf a->2*a.length+1<=f->br a<=b->b<=D->b+B<=31->n+a.length<=100000->Sem (C (D+16)) (ao (a.length+1) aZ.body [some (.ref 0),some (.lst (is.map kL)),some (pN d0),none,none] (BS Z n a) aM aP) (aw (BS Z) .tup (cV is d0 f n a)):=
 have s:∀{D g n t r i},t.k<nv->(t.k==2)=i->Sem (C (D+17)) (ev (yC (aY aZ 3)) (uQ is d0 g true) (BS Z n (t::r))) (.ok (.bool !i) (BS Z n (t::r))):=λ {D g n t r i} w q=> .call ⋯ (tL Z n t r w q) .rr;have G:∀{D g n t r i},t.k<nv->(t.k==1)=i->Sem (C (D+17)) (ev (.call 742 [.loc 0,.lit (.str "sign"),.lit (.str "{")]) (uQ is d0 g true) (BS Z n (t::r))) (.ok (.bool i) (BS Z n (t::r))):=λ {D g n t r i} w q=> .call rfl (OK Z n t r w q) .rr
 (xG (c:=λ D=>C (D+16)) (A:=λ ζ n a=>ao (a.length+1) aZ.body _ (BS Z n a) aM aP) (L:=λ N m ζ g n a=>AQ N m (uQ is d0 g true) (BS Z n a)) (M:=λ N m ζ g n a=>ao N ((yB (aY aZ 3)).drop 1) (uQ is d0 g true) (BS Z n a) (λ J P=>AQ N m J P) (Fy N))
   (λ D ζ n t r h w ζ k=>by
     have H:=xh Z n t r w.nz (d:=D+9);cases v:aG 1 t.k with
     | error y=>rw [aK v];exact .call rfl (a9 v H) .rr
     | ok u=>
      rw [aJ v]
      exact .call rfl (a5 v H) (.call rfl (m9 Z false _ (w.tl (by rw [bM v];decide))) (.cv rfl (k u v))))
   (λ D N m ζ g n t r w q p=>fR (s w.nz q) (A2 Z N is d0 g true p w))
   (λ D N m ζ g n t r x h w q F z k=>fQ (s w.nz q) (dn (G w.nz F) (by
     have z:C (D+17) 890 [.ref 0,.lst (is.map kL),pN d0] _ _:=Cl.b6 _ aZ _ rfl ⋯ z;cases x with
     | bad y j o=>exact GQ rfl (.call rfl z .rr)
     | ok l j o=>
      have m:=k l j o rfl
      exact J5 (w:=l) rfl (aC (aC (.call ⋯ z (.ret (r:=R.ok (V.tup l) (BS Z j o)) rfl)) (aC .rr .rr)) (by rw [AT,DU (ag (dg _ _) m.1)];exact .rt _)) m.1 m.2)))
   (λ D N m ζ g n t r h w q F p k=>fQ (s w.nz q) (dn (G w.nz F) (by
     have z:=OJ Z n is d0 E w (d:=D+2)
     revert z k
     cases hP is d0 n (t::r) with
     | bad y j o=>exact λ ζ z=>oi rfl (.call rfl z .rr)
     | ok v j o=>exact λ k z=>gM (v:=v) rfl (.call rfl z .rr) p (k v j o rfl))))
   (λ D N m ζ f g n a p w I next=>LO (e:=D+1) Z N m is d0 f g p w I next) f).1
def AW(Z)(n)(is)(d0)(h:gG is d0){a}(w:Wf a)(b:br a<=31)(c:n+a.length<=100000){e}:C (e+48) 890 [.ref 0,.lst (is.map kL),pN d0] (BS Z n a) (aw (BS Z) .tup (cV is d0 (2*a.length+2) n a)):=
 Cl.b6 _ _ _ rfl ⋯ (OL Z is d0 h _ n _ 0 31 (e+31) w (kN _) b (dg _ _) (bV _) c)
end
section
def w4(k:Nat):List V:=match qR k with
 | some i=> [kL i]
 | none=> []
variable{k:Nat}
def zU{a}(b:k<nv)(h:bY k= .ok a):txt k=cG a:=by
 have z:=bj (f:=λ k=>match bY k with | .ok a=>txt k==cG a | .error _=>true) (g:=λ ζ=>true) rfl b;rw [h] at z;exact gU z
def zW(h:eO k=false):bY k= .error (b5 k "string"):=if_neg (h▸cK)
def zV(h:eO k=true)(g:qR k=none):bY k= .error (ap (ap "unknown datatype '" (txt k)) "'"):=by
 unfold bY;rw [if_pos h,g]
def sd{i}(h:eO k=true)(g:qR k=some i):bY k= .ok i:=by
 unfold bY;rw [if_pos h,g]
def Jr(v:V):V:=(ae v.s? λ s=>some (kL (([cG 0,cG 1,cG 2,cG 3]:List Str).findIdx λ x=>x==s))).getD .none
def oS(a:List Nat)(x y:Option V):En:= [some (.ref 0),some (.lst (a.map w8)),x,y]
def SO(N:Nat):Kn:=λ a b=>ao N (cS.body.drop 2) a b aM aP
def Qz(N m:Nat)(ρ:En)(σ:St):bX:=W N (yC (aY cS 1)) (yB (aY cS 1)) (SO N) m ρ σ
section
variable{C:Cm}{n:Nat}{ρ:En}{σ σ':St}{r:R V}{x y:X}{xs:List X}
def J2{r}(h:Sem C (ev x ρ σ) (.ok (.bool false) σ))(k:Sem C (ev (.ba false (y::xs)) ρ σ) r):Sem C (ev (.ba false (x::y::xs)) ρ σ) r:=aC h k
def N1(h:Sem C (ev x ρ σ) (.ok (.bool true) σ)):Sem C (ev (.ba false (x::y::xs)) ρ σ) (.ok (.bool true) σ):=aC h .rr
end
section
variable{d:Nat}
def D0(Z:Px)(n:Nat)(t:Tk)(r:List Tk)(h:t.k<nv):C (d+4) 650 [.str (txt t.k)] (BS Z n (t::r)) (.ok (.lst (w4 t.k)) (BS Z n (t::r))):=
 Cl.dp 3 (bj (f:=λ k=>bL lf T0 100 3 650 [.str (txt k)] (bW Z n (aH k t.row t.col::r.map tv))) (g:=λ k=>some (.ok (.lst (w4 k)) (bW Z n (aH k t.row t.col::r.map tv)))) ⋯ h)
def D1(Z)(n i)(hi:i<4)(t)(r):C (d+4) 650 [.str (cG i)] (BS Z n (t::r)) (.ok (.lst [kL i]) (BS Z n (t::r))):=
 Cl.dp 3 (bj (f:=λ i=>bL lf T0 100 3 650 [.str _] _) (g:=λ i=>some (.ok (.lst [kL i]) _)) ⋯ hi)
def FF(Z)(N:Nat)(b:List Nat)(x y)(n)(t:Tk)(r)(w:Wf (t::r))(m q)(p:b.length<=200000){c}
 (l:∀y,bY t.k= .error y->c= .ex (.exc y t.row t.col) (BS Z n (t::r)))
 (o:∀a,bY t.k= .ok a->Sem (C (d+6)) (m (oS (b++ [a]) (some (.str (gI t.k))) (some (.str (txt t.k)))) (BS Z (n+1) r)) c):
 Sem (C (d+6)) (ao N ((yB (aY cS 1)).drop 1) (oS b x y) (BS Z n (t::r)) m q) c:=by
 have h:=w.nz;refine aV (ρ':=oS b _ (some (.str _))) (.call rfl (tJ Z n t r) .rr) (rfl) ?_
 have g:Sem (C (d+6)) _ _:=
  Cl.f3 (F:=λ k=>ev (.prim (.cmp .NotEq) [.loc 2,.lit (.str "word")]) (oS b (some (.str _)) (some (.str (txt t.k)))) _) (G:=λ k=> .ok (.bool !eO k) (BS Z n (t::r))) 0 rfl h
 cases e:eO t.k with
 | false=>
  rw [e] at g;simp only [l _ (zW e)];exact ak _ g (.call rfl (Lz Z n t r h) .rr)
 | true=>
 rw [e] at g;refine aI g ?_;have j:=D0 Z n t r h (d:=d+2);cases f:qR t.k with
 | none=>
  rw [show w4 t.k= [] by unfold w4;rw [f]] at j;rw [l _ (zV e f)];exact ak true (.call rfl j .rr) (aC (Cl.f3 (F:=λ k=>ev _ (oS b _ (some (.str _))) (bW Z n (aH k _ _::r.map tv))) (G:=λ k=> .ok (.exc (ap (ap _ _) "'") t.row t.col) (bW Z n (aH k _ _::r.map tv))) 3 ⋯ h) (aX rfl .rr))
 | some i=>
  rw [show w4 t.k= [kL i] by unfold w4;rw [f]] at j;refine aI (.call rfl j .rr) ?_;refine gM (v:=.str (txt t.k)) (σ':=BS Z _ r) rfl (.call rfl (ry Z n t r) .rr) (jD (k:=0) p rfl) ?_
  exact (by
   unfold oS;simp only [qo,List.map_singleton,show w8 i= .str (txt t.k) by rw [zU h (sd e f)];rfl];rfl:oS (b++ [i]) (some (.str (gI t.k))) (some (.str _))=(oS b (some (.str (gI t.k))) _).set 1 (some (.lst (b.map w8++ [.str _]))))▸o i (sd e f)
theorem FE(Z)(N):∀(e) (f) (b) (x y) (n m),Wf e->e.length<m->b.length+e.length<=100000->Sem (C (d+6)) (Qz N m (oS (f::b) x y) (BS Z n e)) (aw (BS Z) (λ l=>V.tup (l.map w8)) (e5 7 bY (f::b) n e))
 | [],_,_,_,_,_,_,w,_,_=>w.elim
 | _::_,_,_,_,_,_,0,_,h,_=>absurd h (gV _)
 | [t],f,b,x,y,n,m+1,w,h,g=>fR (.call rfl (FG Z n t [] w.nz (w.elim λ w=>by rw [w.1];rfl λ w=>w.2.2.elim)) .rr) (gL rfl (jD (l:=f::b) (k:=0) g rfl))
 | t::j::r,f,b,x,y,n,m+1,w,h,g=>by
  simp only [dx] at h g;have c:∀i,(t.k==7)=i->Sem _ (ev (yC (aY cS 1)) (oS (f::b) x y) (BS Z n (t::j::r))) _:=λ i q=> .call rfl (FG Z n t _ w.nz q (d:=d+2)) .rr;cases q:t.k==7 with
  | false=>rw [jw q];exact fR (c _ q) (gL rfl (jD (l:=f::b) (k:=0) (ez (u7 g)) rfl))
  | true=>
   have o:=w.tl λ z=>by simp_all
   refine fQ (c _ q) (FF Z N _ x y _ j r o _ _ (ag (ez (u7 g)) ⋯) λ y v=>by rw [jx q v];rfl λ a v=> ?_);rw [jy q v];exact FE Z N r f (b++ [a]) _ _ _ m (o.tl λ z=>by rw [z] at v;contradiction) (xq (qu h)) (by rw [hH,Bw,sG];exact kS g)
def xd(Z)(n){b}(w:Wf b)(c:b.length<=100000):C (d+7) 897 [.ref 0] (BS Z n b) (aw (BS Z) aW (bK 7 bY n b)):=by
 match b,w with
 | t::r,w=>
 simp [dx] at c;refine Cl.b6 (r.length+2) _ [some _,none,none,none] rfl rfl (.cv (t:=Qz _ _ _ _) rfl (fQ .rr ?_));unfold bK;exact FF Z _ [] _ _ n t r w _ _ (by simp) λ y v=>by rw [aK v];rfl λ a v=>aJ v▸FE Z _ r a [] _ _ _ _ (w.tl λ z=>by rw [z] at v;contradiction) (j8 _) (ag (b1 (jH _)) (nj c))
def rz(Z)(n)(is)(hi:∀i∈is,i<4)(e:is.length<=200000)(t)(r):C (d+5) 907 [aW is] (BS Z n (t::r)) (.ok (.lst (is.map kL)) (BS Z n (t::r))):=by
 refine Cl.b6 0 _ [some _,none] rfl rfl ?_
 have c:=kJ (C:=C (d+4)) (fe:=λ a b=>ev (.prim .item [.call 650 [.loc 1],.lit (.int 0)]) a b) (ft:=λ a b=>nN [] a b) (t:=.loc 1) (I:=λ a=>∃x,a= [some (aW is),x]) (p:=λ ζ=>true) (g:=λ v=>Jr v)
  _ _ (λ v a m i=>by
   obtain ⟨x,rfl⟩:=i;obtain ⟨j,mj,rfl⟩:=i0.mp m;refine {[some _,some _],rfl,⟨_,rfl⟩,.rt _,λ ζ=> ?_};rw [bj (f:=λ j=>Jr (V.str _)) ⋯ (hi j mj)]
   exact .call rfl (D1 Z n j (hi j mj) t r) .rr) ⟨none,rfl⟩
 rw [List.filter_eq_self.mpr λ ζ ζ=>rfl,uX] at c;rw [(Bo λ j mj=>bj rfl (hi j mj):is.map ((λ v=>Jr v)∘λ i=>V.str (cG i))=is.map kL)] at c;exact ji (kI .rr rfl (jD (k:=0) e rfl)) c
def uR(Z)(n)(d0)(h:∀is,d0=some (.keys is)->(∀i∈is,i<4)/\is.length<=200000)(t)(r):C (d+5) 907 [hg d0] (BS Z n (t::r)) (.ok (pN d0) (BS Z n (t::r))):=by
 match d0,h with
 | none,h=>exact hC.go 0 .rr
 | some .cU,h=>exact hC.go 0 .rr
 | some (.keys is),h=>exact rz Z n is (h is rfl).1 (h is rfl).2 t r
end
end
section
def Mg(i:Nat):V:=.str (bG i)
variable{k:Nat}
def zY{a}(b:k<nv)(h:dr k= .ok a):txt k=bG a:=by
 have z:=bj (f:=λ k=>match dr k with | .ok a=>txt k==bG a | .error _=>true) (g:=λ ζ=>true) rfl b;rw [h] at z;exact gU z
def q8:dr k=(match vk k with | some i=> .ok i | none=> .error "unknown set flag"):=rfl
def m7(a:List Nat):En:= [some (.ref 0),some uV,some (.lst (a.map Mg)),none]
def QC(N:Nat):Kn:=λ a b=>ao N (cT.body.drop 2) a b aM aP
def QB(N m:Nat)(ρ:En)(σ:St):bX:=W N (yC (aY cT 1)) (yB (aY cT 1)) (QC N) m ρ σ
def L7{σ}(x)(l:List Str):hF (fq σ (.str x) (.lst (l.map .str)))=some (.bool (l.any λ y=>y==x)):=by
 rw [(by kernel_rfl:hF _=hF (oe (ae (strsOf _) λ a=>some (a.any _)) none)),lG];rfl
def Nu{j}(b:j<4):∀a:List Nat,(∀i∈a,i<4)->(a.any λ i=>bG i==bG j)=a.contains j
 :=by
 intro d
 induction d with
 | nil=>
  intro _;exact rfl
 | cons i a c=>
  intro h
  exact by
   simp only [List.any_cons,xt,sQ (h i (.head _)) b,(by rw [Bool.eq_iff_iff,uW,uW];exact eq_comm:(i==j)=(j==i)),c λ i m=>h i (.tail _ m)]
section
variable{d:Nat}
def FI(Z)(N)(a)(f:∀i∈a,i<4)(n)(b):Sem (C d) (QC N (m7 a) (BS Z n b)) (.ok (jO a) (BS Z n b)):=by
 have c:Sem (C d) (je (λ e g=>ev (.loc 3) e g) _ (.loc 3) _ (m7 a) _) (.ok (([V.str "constant",.str "dynamic",.str "interval",.str "timeout"].filter λ v=>(ae v.s? λ x=>some ((a.map _).any λ y=>y==x)).getD false).map id) _):=
  kJ (I:=λ e=>∃x,e= [some _,some uV,some _,x]) _ _ (λ v e m i=>by
   obtain ⟨x,rfl⟩:=i;refine {[some _,some uV,some _,some v],rfl,⟨_,rfl⟩,?_,λ ζ=> .rr};obtain ⟨s,rfl⟩:=(by grind:∃s,v= .str s);refine (?_:Sem _ (nN [.si (.loc 3) 2] _ _) (.ok ((a.map _).any _) _))
   refine aC (by
    refine aC (r1:=.ok _ (BS Z n b)) .rr (aX rfl ?_)
    rw [(by rw [uX];rfl:a.map Mg=(a.map _).map _),L7];exact .rt _:Sem _ _ (.ok _ _)) ?_
   cases (a.map _).any _<;>exact .rt _) ⟨none,rfl⟩
 rw [(by
  rw [List.map_id,show [V.str _,.str _,.str _,.str _]= [0,1,2,3].map _ from by kernel_rfl,List.filter_map]
  congr 1
  refine List.filter_congr λ j m=>(?_:(a.map _).any _=a.contains j);rw [List.any_map]
  exact Nu (nf.mp m) a f:([V.str _,.str _,.str _,.str _].filter _).map id=([0,1,2,3].filter λ i=>a.contains i).map λ i=>V.str _)] at c
 refine fG (ah (ai (ji (.ret ⋯) c) .rr) (mJ ?_));rw [cJ];exact ag (Bv _ _) ⋯
def FJ(Z)(N)(b)(n)(t)(r)(w:Wf (t::r))(g m)(l:b.length<=200000){c}
 (h:∀y,dr t.k= .error y->c= .ex (.exc y t.row t.col) (BS Z n (t::r)))
 (j:∀a,dr t.k= .ok a->Sem (C (d+6)) (g (m7 (b++ [a])) (BS Z (n+1) r)) c):
 Sem (C (d+6)) (ao N ((yB (aY cT 1)).drop 1) (m7 b) (BS Z n (t::r)) g m) c:=by
 have f:Sem (C (d+6)) (ev _ _ (BS Z n (t::r))) (.ok _ (BS Z n (t::r))):=
  Cl.f3 (F:=λ k=>ev (.ba false [.prim (.cmp .NotEq) [.prim .item [.call 721 [.loc 0],.lit (.int 0)],.lit (.str "word")],.prim (.cmp .NotIn) [.prim .item [.call 721 [.loc 0],.lit (.int 1)],.loc 1]]) (m7 b) (bW Z n (aH k _ _::r.map tv))) (G:=λ k=> .ok (.bool (vk k).isNone) (bW Z n (aH k _ _::r.map tv))) 1 ⋯ w.nz
 cases e:vk t.k with
 | none=>
  rw [e] at f;rw [h _ (by rw [q8,e])];exact ak _ f (.call rfl (gw Z n t r _) .rr)
 | some i=>
  rw [e] at f
  exact aI f (gM rfl (.call rfl (ry Z n t r) .rr) (jD (k:=0) l rfl) ((by
   unfold m7;simp only [qo,List.map_singleton,show Mg i= .str (txt t.k) by rw [zY w.nz (by rw [q8,e])];rfl];rfl:m7 (b++ [i])=(m7 b).set 2 _)▸j i (by rw [q8,e])))
theorem FH(Z)(N):∀(e) (f) (b) (n m),Wf e->e.length<m->b.length+e.length<=100000->(∀i∈f::b,i<4)->Sem (C (d+6)) (QB N m (m7 (f::b)) (BS Z n e)) (aw (BS Z) jO (e5 6 dr (f::b) n e))
 | [],_,_,_,_,w,_,_,_=>w.elim
 | _::_,_,_,_,0,_,h,_,_=>absurd h (gV _)
 | [t],f,b,n,m+1,w,h,j,g=>fR (J2 .rr (.call rfl (tK Z n t [] w.nz (w.elim λ w=>by rw [w.1];rfl λ w=>w.2.2.elim)) .rr)) (FI Z N _ g n [t])
 | t::p::r,f,b,n,m+1,w,h,j,g=>by
  simp [dx] at h j;have c:∀o,(t.k==6)=o->Sem _ (ev (yC (aY cT 1)) (m7 (f::b)) (BS Z n (t::p::r))) _:=λ o q=>J2 .rr (.call rfl (tK Z n t _ w.nz q (d:=d+2)) .rr);cases q:t.k==6 with
  | false=>rw [jw q];exact fR (c _ q) (FI Z N _ g n _)
  | true=>
   have s:=w.tl λ z=>by simp_all
   refine fQ (c _ q) (p8 .rr .rr rfl .rr ⋯ (FJ Z N _ _ p r s _ _ (ag (ez (u7 j)) ⋯) λ y v=>by rw [jx q v];rfl λ a v=> ?_));exact jy q v▸FH Z N r f (b++ [a]) _ m (s.tl λ z=>by rw [z] at v;contradiction) (xq h) (by rw [hH];exact ag (b1 (kU ..)) (kS j)) λ i l=>(e6.mp l).elim (g i) λ l=>cu.mp l▸pj v
def H8(Z)(n){b}(w:Wf b)(c:b.length<=100000):C (d+7) 902 [.ref 0] (BS Z n b) (aw (BS Z) jO (bK 6 dr n b)):=by
 match b,w with
 | t::r,w=>
 simp [dx] at c;refine Cl.b6 (r.length+2) _ [some _,none,none,none] rfl rfl (.cv (t:=QB _ _ (m7 []) _) rfl (fQ (N1 .rr) (p8 (σ':=BS Z n _) .rr .rr rfl .rr rfl ?_)));unfold bK;exact FJ Z _ [] n t r w _ _ (by simp) λ y v=>by rw [aK v];rfl λ a v=>aJ v▸FH Z _ r a [] _ _ (w.tl λ z=>by rw [z] at v;contradiction) (j8 _) (ag (b1 (jH _)) (nj c)) λ i e=>cu.mp e▸pj v
end
end
section
variable{Z:Px}{es:List Td}{n:Nat}{r:List Tk}
def ew(e:Td)(h:a8 es)(t:told es e.key=false):setItem (BS (Zt Z es) n r) (.ref 1) (.str e.key) e.val=some (BS (Zt Z (es++ [e])) n r):=by
 show oe (gd _ _) _=_;rw [gd,if_pos (by rw [cJ];exact ag h.len (by simp)),sb t];rfl
def ua(w):prim (.cmp .In) (BS (Zt Z es) n r) [.str w,.ref 1]=some (.bool (told es w)):=by rw [←lY];kernel_rfl
def rU(w):prim (.cmp .NotIn) (BS (Zt Z es) n r) [.str w,.ref 1]=some (.bool !(told es w)):=by rw [←lY];kernel_rfl
def zG(w)(v):kx .eH (BS (Zt Z es) n r) (.ref 1) [.str w,v]=some (look es w v):=by rw [←h9];kernel_rfl
def rW(w):kx .pK (BS (Zt Z es) n r) (.ref 1) [.str w]=some (look es w .none):=by rw [←h9];kernel_rfl
def lD(w)(v)(h:df (es.map Td.key) (es.map Td.val) w=some v):prim .item (BS (Zt Z es) n r) [.ref 1,.str w]=some v:=by
 rw [(by kernel_rfl:prim _ _ _=oe (df _ _ w) none),h];rfl
end
noncomputable def N4:V:=.lst [.str "type",.str "flags",.str "timeout",.str "size",.str "auto-merge",.str "elements"]
def oU(b:Bool)(w:Str):En:= [some (.ref 0),some (.str (bk b)),some (.ref 1),some N4,some (.str w)]
def qi(b:Bool)(w:Str)(Z:Px)(es:List Td)(n:Nat)(r:List Tk):bX:=ao 0 (mA.body.drop 6) (oU b w) (BS (Zt Z es) n r) aM aP
def SL(Z:Px)(es:List Td)(n:Nat)(r:List Tk):St:=BS (Zt Z es) n r
section
def HX(Z)(b)(es)(ok:a8 es)(G:told es "type"=false)(n){c}(w:Wf c)(F:c.length<=100000){d}:RW (Sem (C (d+9)) (qi b "type" Z es n c)) (SL Z) (d4 b es 10 n c):=by
 have p:=xd (Zt Z es) n w F (d:=d+2);have g:=λ l m r=>ph (j:=7) ⋯ om (λ ζ ζ=>lO) (n:=n) w (l:=l) (m:=m) (r:=r);refine (?_:RW _ _ ((bK 7 _ n _).bind _))
 revert p g
 cases bK 7 _ n _ with
 | bad y m r=>exact λ p ζ=> .bad es (.call rfl p .rr)
 | ok i m r=>
  refine λ p g=>(g i m r rfl).elim λ a B=> ?_;have H:=a.eq;have o:=ok.snoc (e:=.ty i) G {B.1,ag (a.cnt B.2) (ag F ⋯)} (.inl rfl)
  have st:∀q,Sem _ _ q->Sem (C (d+9)) (qi b "type" Z es n _) q:=λ q h=>
   ak true .rr (cZ (.call rfl p .rr) .rr .rr (ew (.ty i) ok G) (.cv rfl h))
  cases b with
  | false=>exact .ok (st _ .rr)
  | true=>
   cases r with
   | nil=>exact a.wf.elim
   | cons t r=>
   have M:=xg (Zt Z (es++ [Td.ty i])) m t r a.wf.nz (d:=d+2);refine (?_:RW _ _ ((one _ m _).bind _));cases v:aG 8 t.k with
   | error y=>rw [aK v];exact .bad (es++ [Td.ty i]) (st _ (.call rfl (a9 v M) .rr))
   | ok u=>
   rw [aJ v];have Q:=a.wf.tl λ z=>absurd (bM v) (by rw [z];decide);cases r with
   | nil=>contradiction
   | cons s D=>
   have x:told (es++ [Td.ty i]) "data"=false:=by
    rw [iy];cases q:told es _ with
    | true=>rw [ok.dt q] at G;contradiction
    | false=>kernel_rfl
   have k:=λ q h=>
    st q (ak true .rr (fV (.call rfl (a5 v M) .rr) (.cv rfl h)))
   have E:∀I,(s.k==17)=I->Sem (C (d+9)) (ev (.call 742 [.loc 0,.lit _,.lit _]) (oU true "type") (BS _ (m+1) _)) _:=λ I q=> .call rfl (LN (Zt Z (es++ [Td.ty i])) _ s D Q.nz q) .rr;refine (?_:RW _ _ (cond (s.k==17) (.ok _ (m+2) D) _));cases q:s.k==17 with
   | true=>
    obtain ⟨U,P,J⟩:=s;have T:=gU q;subst T;have A:=ew (Z:=Z) (n:=m+2) (r:=D) (.da .cU) o x;rw [jJ] at A;exact .ok (k _ (cZ (ym _ (E _ rfl) (.call rfl (ry _ _ _ D) .rr)) .rr .rr A .rr))
   | false=>
    have f:=xd (Zt Z (es++ [Td.ty i])) (m+1) Q (ag (kS a.len) F) (d:=d+2)
    revert f
    cases bK 7 _ _ _ with
    | bad y L N=>exact λ f=> .bad (es++ [Td.ty i]) (k _ (fF (ym _ (E _ q) (.call rfl f .rr))))
    | ok S L N=>
     intro f;have A:=ew (Z:=Z) (n:=L) (r:=N) (.da (.keys S)) o x;rw [jJ] at A;exact .ok (k _ (cZ (ym _ (E _ q) (.call rfl f .rr)) .rr .rr A .rr))
def H0(Z)(b)(es)(ok:a8 es)(g:told es "flags"=false)(n){a}(w:Wf a)(e:a.length<=100000){d}:RW (Sem (C (d+9)) (qi b "flags" Z es n a)) (SL Z) (d4 b es 11 n a):=by
 have c:=H8 (Zt Z es) n w e (d:=d+2);refine (?_:RW _ _ ((bK 6 _ n _).bind _))
 revert c
 cases bK 6 _ n _ with
 | bad y m r=>exact λ c=> .bad es (ak false .rr (ak true .rr (fF (.call rfl c .rr))))
 | ok f m r=>exact λ c=> .ok (ak false .rr (ak true .rr (cZ (.call rfl c .rr) .rr .rr (ew (.fl f) ok g) .rr)))
def HY(Z)(b)(es)(ok:a8 es)(e:told es "timeout"=false)(n){a}(w:Wf a){d}:RW (Sem (C (d+10)) (qi b "timeout" Z es n a)) (SL Z) (d4 b es 12 n a):=by
 match a,w with
 | t::r,w=>
 have c:=AU (Zt Z es) n t r w.nz (d:=d);refine (?_:RW _ _ ((one _ n _).bind _));cases v:f_ t.k with
 | error y=>rw [aK v];exact .bad es (ak false .rr (ak false .rr (ak true .rr (fF (.call rfl (a9 v c) .rr)))))
 | ok i=>rw [aJ v];exact .ok (ak false .rr (ak false .rr (ak true .rr (cZ (.call rfl (a5 v c) .rr) .rr .rr (ew (.tm i) ok e) .rr))))
def HZ(Z)(b)(es)(ok:a8 es)(e:told es "size"=false)(n){a}(w:Wf a){d}:RW (Sem (C (d+10)) (qi b "size" Z es n a)) (SL Z) (d4 b es 13 n a):=by
 match a,w with
 | t::r,w=>
 have c:=LI (Zt Z es) n t r w.nz (d:=d);refine (?_:RW _ _ ((one _ n _).bind _));cases v:pg t.k with
 | error y=>rw [aK v];exact .bad es (ak false .rr (ak false .rr (ak false .rr (ak true .rr (fF (.call ⋯ (a9 v c) .rr))))))
 | ok i=>rw [aJ v];exact .ok (ak false .rr (ak false .rr (ak false .rr (ak true .rr (cZ (.call ⋯ (a5 v c) .rr) .rr .rr (ew (.sz i) ok e) .rr)))))
def H3(Z)(b)(es)(ok:a8 es)(c:told es "auto-merge"=false)(n)(a){d}:RW (Sem (C d) (qi b "auto-merge" Z es n a)) (SL Z) (d4 b es 14 n a):=
 .ok (ak false .rr (ak false .rr (ak false .rr (ak false .rr (ak true .rr (cZ .rr .rr .rr (ew .au ok c) .rr))))))
def H2(Z)(b)(es)(ok:a8 es)(F:told es "elements"=false)(G:told es "type"=true)(n){f}(w:Wf f)(B:br f<=31)(z:n+f.length<=100000){d}:RW (Sem (C (d+48)) (qi b "elements" Z es n f)) (SL Z) (d4 b es 15 n f):=by
 match f,w with
 | t::r,w=>
 have p:=H5 (Zt Z es) n t r w.nz (d:=d+41)
 have st:∀q,Sem _ _ q->Sem (C (d+48)) (qi b "elements" Z es n (t::r)) q:=λ q h=>
  ak false .rr (ak false .rr (ak false .rr (ak false .rr (ak false .rr (.cv rfl h)))))
 refine (?_:RW _ _ ((one _ n _).bind _));cases v:aG 5 t.k with
 | error y=>rw [aK v];exact .bad es (st _ (.call rfl (a9 v p) .rr))
 | ok u=>
 rw [aJ v];have a:=a_.step (n:=n) w (by rw [bM v];decide);simp [dx] at z;refine (n_ G).elim λ j i=> ?_;have o:=ok.ok _ i.2.2;have A:=λ D e=>ok.ok _ (vz e) D rfl
 match r,a with
 | s::r,a=>
 have k:=AW (Zt Z es) (n+1) j _ ⟨o.1,o.2,A⟩ a.wf (ag a.br B) (ag (b1 (kU ..)) z) (e:=d)
 have x:∀u,C _ 890 _ _ u->Sem (C (d+48)) (ev (.call 890 [.loc 0,.call 907 [.prim _ [.loc 2,.lit _]],.call 907 [.met _ (.loc 2) [.lit _]]]) (oU b "elements") _) u:=λ u c=>
  aC (ai .rr (ai (aC (ai (ah .rr (lD _ _ i.2.1)) .rr) (.cl (rz _ _ j o.1 o.2 s r) .rr)) (ai (aC (ai (p7 .rr rfl .rr (rW _)) .rr) (.cl (by rw [xI];exact uR (Zt Z es) (n+1) _ A s r) .rr)) .rr))) (.cl c .rr)
 have g:=(jQ j (jc es) (2*(s::r).length+2)).1 (n+1) _ a.wf;rw [i.1]
 revert k g
 refine (?_:_->_->RW _ _ ((cV j _ _ _ _).bind _));cases cV j _ _ _ _ with
 | bad y m E=>exact λ k ζ=> .bad es (st _ (fV (.call rfl (a5 v p) .rr) (fF (x _ k))))
 | ok l m E=>
  exact λ k g=> .ok (st _ (fV (.call rfl (a5 v p) .rr) (cZ (x _ k) .rr .rr (ew (.el l) ok F) .rr)))
end
def QE(N:Nat):Kn:=λ a b=>ao N (cW.body.drop 4) a b aM aP
def FC(N m:Nat)(ρ:En)(σ:St):bX:=W N (yC (aY cW 3)) (yB (aY cW 3)) (QE N) m ρ σ
def so(b:Bool):En:= [some (.ref 0),some (.str (bk b)),some (.ref 1),none,none,none,none]
def QD(N:Nat)(b:Bool)(σ:St):bX:=ao N (cW.body.drop 5) (so b) σ aM aP
def gt_int{σ}{a b}:prim (.cmp .Gt) σ [.int a,.int b]=some (.bool (decide (b<a))):=rfl
def Kt{i:Int}(h:0<=i):decide (0<i)= !(i==0):=by
 cases q:i==0 with
 | true=>rw [gU q];rfl
 | false=>exact jI (Int.lt_iff_le_and_ne.mpr {h,λ e=>by rw [←e] at q;contradiction})
def Lj{σ}(l):prim (.cmp .NotEq) σ [.tup l,.tup []]=some (.bool !l.isEmpty):=by
 cases l<;>kernel_rfl
noncomputable def ML(a:Str)(b:V):List V->List V
 | v::l=> [ia a b,ia "element" (.tup (v::l))]
 | []=> [ia a b]
def Er{b}{es}{a}(c:look es "elements" (.tup [])= .tup a):fM b es=ML (bk b) (dm es) a:=by
 unfold fM;rw [c];cases a<;>rfl
def sr(b:Bool)(f a:V)(s:Option V):En:= [some (.ref 0),some (.str (bk b)),some (.ref 1),some f,some a,s,none]
section
def LJ(Z)(b)(es)(c:a8 es){k}(l:cR k=true)(f:told es (txt k)=false)(o:k=15->told es "type"=true)(n){a}(w:Wf a)(j:br a<=31)(i:n+a.length<=100000){d}:RW (Sem (C (d+48)) (qi b (txt k) Z es n a)) (SL Z) (d4 b es k n a):=by
 have g:∀{e} {x} {t},e<=d+48->RW (Sem (C e) t) (SL Z) x->RW (Sem (C (d+48)) t) (SL Z) x:=λ m h=>h.pre λ ζ=>Cl.pE m
 rcases rB l with rfl | rfl | rfl | rfl | rfl | rfl
 ·exact g (pb rfl) (HX Z b es c f n w (xv i) (d:=d))
 ·exact g (pb rfl) (H0 Z b es c f n w (xv i) (d:=d))
 ·exact g (pb rfl) (HY Z b es c f n w (d:=d))
 ·exact g (pb rfl) (HZ Z b es c f n w (d:=d))
 ·exact g (ed d 48) (H3 Z b es c f n _)
 ·exact H2 Z b es c f (o rfl) n w j i
def OI(Z)(b)(es)(ok:a8 es)(n){i}(w:Wf i)(E:br i<=31)(v:n+i.length<=100000){d}:RW (C (d+49) 914 [.ref 0,.str (bk b),.ref 1] (BS (Zt Z es) n i)) (SL Z) (mS b es n i):=by
 match i,w with
 | t::r,w=>
 have st:∀q,Sem _ _ q->C (d+49) 914 [.ref 0,.str (bk b),.ref 1] (BS (Zt Z es) n _) q:=λ q h=>
  hC.go 0 (.call rfl (tJ _ n t r) (.cv rfl h))
 have j:Sem (C (d+48)) (ev _ _ (BS _ n (t::r))) (.ok _ (BS _ n (t::r))):=
  Cl.f3 (F:=λ k=>ev (.ba false [.prim (.cmp .NotEq) [.prim .item [.call 721 [.loc 0],.lit (.int 0)],.lit (.str "word")],.prim (.cmp .NotIn) [.loc 4,.loc 3]]) (oU b (txt k)) (bW (Zt Z es) n (aH k _ _::r.map tv))) (G:=λ k=> .ok (.bool !cR k) (bW (Zt Z es) n (aH k _ _::r.map tv))) 1 ⋯ w.nz
 refine (?_:RW _ _ (cond (cR t.k) (cond _ _ (cond (t.k==15 && !told es "type") _ (d4 b es t.k _ r))) _));cases q:cR t.k with
 | false=>
  exact .bad es (st _ (ak _ (q▸j) (.call ⋯ (LA (Zt Z es) n t r w.nz) (.ret (r:=R.ex (V.exc (b5 t.k yu) t.row t.col) (BS (Zt Z es) n (t::r))) ⋯))))
 | true=>
 rw [q] at j;have H:t.k≠0:=λ z=>by rw [z] at q;cases q
 have a:=a_.step (n:=n) w H;rw [dx] at v
 have m:Sem (C (d+48)) (ev (.prim (.cmp .Eq) [.loc 4,.lit (.str "elements")]) (oU b (txt t.k)) (BS (Zt Z es) n (t::r))) (.ok (.bool (t.k==15)) (BS (Zt Z es) n (t::r))):=by
  have z:=bj (f:=λ k=>cond (cR k) (mV (bL lf T0 100 0) (ev (.prim (.cmp .Eq) [.loc 4,.lit (.str "elements")]) (oU b (txt k)) (BS (Zt Z es) n (t::r)))) none) (g:=λ k=>cond (cR k) (some (R.ok (V.bool (k==15)) (BS (Zt Z es) n (t::r)))) none) ⋯ w.nz;simp only [q,cond_true] at z;exact Cl.ex 0 z
 have l:Sem (C (d+48)) (ev (.prim (.cmp .In) [.loc 4,.loc 2]) (oU b (txt t.k)) (BS (Zt Z es) n (t::r))) (.ok (.bool (told es (txt t.k))) (BS (Zt Z es) n (t::r))):=ah (.ret (r:=.ok [.str (txt t.k),.ref 1] _) ⋯) (ua _);show RW _ (SL Z) (cond (told es (txt t.k)) _ _);cases s:told es (txt t.k) with
 | true=>rw [s] at l;exact .bad es (st _ (aI j (ak true l (.call ⋯ (gw (Zt Z es) n t r "You can only specify this once") (.ret (r:=R.ex (V.exc "You can only specify this once" t.row t.col) (BS (Zt Z es) n (t::r))) ⋯)))))
 | false=>
 rw [s] at l
 have p:(t.k==15 && !told es "type")=false->Sem (C (d+48)) (ev (.ba true [.prim (.cmp .Eq) [.loc 4,.lit (.str "elements")],.prim (.cmp .NotIn) [.lit (.str "type"),.loc 2]]) (oU b (txt t.k)) (BS (Zt Z es) n (t::r))) (.ok (.bool false) (BS (Zt Z es) n (t::r)))->RW (C (d+49) 914 [.ref 0,.str (bk b),.ref 1] (BS (Zt Z es) n (t::r))) (SL Z) (d4 b es t.k (n+1) r):=λ y c=>by
  exact (LJ Z b es ok q s (λ e=>by rw [e] at y;exact Eq.symm ((λ {x y}=>Bool.not_inj_iff.mp) (id (Eq.symm y)))) (n+1) a.wf (ag a.br E) (ag (b1 (kU ..)) v) (d:=d)).pre λ u D=>st _ (aI j (aI l (aI c (p8 (σ':=BS (Zt Z es) (n+1) r) (w:=.ref 0) (k:=.str "at") (a:=.int n) (b:=.int 1) (.ret ⋯) (.ret ⋯) ⋯ (.ret ⋯) ⋯ D))))
 show RW _ (SL Z) (cond (t.k==15 && !told es "type") (.bad (gR b) n (t::r)) (d4 b es t.k (n+1) r));cases A:t.k==15 with
 | false=>rw [A] at m p;exact p rfl (d_ m)
 | true=>
  rw [A] at m p;have o:Sem (C (d+48)) (ev (.ba true [.prim (.cmp .NotIn) [.lit (.str "type"),.loc 2]]) (oU b (txt t.k)) (BS (Zt Z es) n (t::r))) (.ok (.bool !(told es "type")) (BS (Zt Z es) n (t::r))):=(ah (.ret (r:=.ok [.str "type",.ref 1] _) ⋯) (rU _):Sem (C (d+48)) (ev (.prim (.cmp .NotIn) [.lit (.str "type"),.loc 2]) (oU b (txt t.k)) (BS (Zt Z es) n (t::r))) _);cases B:told es "type" with
  | true=>rw [B] at o p;exact p rfl (bQ m o)
  | false=>
   rw [B] at o;cases b with
   | false=>exact .bad es (st _ (aI j (aI l (ak true (bQ m o) (.call ⋯ (gw (Zt Z es) n t r (gR false)) (.ret (r:=R.ex (V.exc (gR false) t.row t.col) (BS (Zt Z es) n (t::r))) ⋯))))))
   | true=>exact .bad es (st _ (aI j (aI l (ak true (bQ m o) (.call ⋯ (gw (Zt Z es) n t r (gR true)) (.ret (r:=R.ex (V.exc (gR true) t.row t.col) (BS (Zt Z es) n (t::r))) ⋯))))))
def Ib(Z)(N)(b){d}:∀f es n a m,a8 es->Wf a->a.length<f->a.length<m->br a<=31->n+a.length<=100000->BL (C (d+49)) (SL Z) (QD N b) n a (FC N m (so b) (SL Z es n a)) (fW b f es n a):=
 xW (T:=λ m c=>FC N m (so b) c) (T2:=λ m c=>ao N ((yB (aY cW 3)).drop 1) (so b) c (λ p c=>FC N m p c) (QE N))
  (λ m es n t r q h e k=>fR (.call rfl (tL (Zt Z es) n t r h e (d:=d+45)) .rr) k)
  (λ m es n t r e ok w i j=>(OI Z b es ok n w i j).pre (Gr (λ v c h q k=>fQ (.call rfl (tL (Zt Z es) n t r w.nz e (d:=d+45)) .rr) (.call (q:=.ok v c) rfl h (.cv rfl k)))
    λ s c h=>fQ (.call rfl (tL (Zt Z es) n t r w.nz e (d:=d+45)) .rr) (.call rfl h .rr)))
  λ m es n r w=>by
   have g:=LD (Zt Z es) n w (d:=d+42)
   revert g
   cases gN n r with
   | bad y l o=>exact λ g=> .call rfl g .rr
   | ok u l o=>exact λ g q h=> .call rfl g (.cv rfl h)
def Ic(Z)(N)(b)(es)(ok:a8 es)(n){a}(w:Wf a){d}:Sem (C (d+49)) (QD N b (BS (Zt Z es) n a))
 (cond (told es "type") (.ok (.lst (fM b es)) (BS (Zt Z es) n a)) (.ex (.exc (gR b) (a7 a).row (a7 a).col) (BS (Zt Z es) n a))):=by
 have p:Sem (C (d+49)) (ev (.prim _ [.lit _,.loc 2]) (so b) (BS (Zt Z es) n a)) _:=ah (.ret (r:=.ok [.str "type",.ref 1] _) rfl) (rU _);cases D:told es _ with
 | false=>
  rw [D] at p;cases a with
  | nil=>exact w.elim
  | cons t r=>cases b with
   | false=>exact ak _ p (.call rfl (gw _ n t r _) .rr)
   | true=>exact ak true p (.call rfl (gw _ n t r _) .rr)
 | true=>
 rw [D] at p;refine qz (es:=es).elim λ l m=> ?_;refine (wu ok.ok).elim λ i e=> ?_;refine (xH ok.ok).elim λ c o=> ?_;refine (n_ D).elim λ I z=> ?_
 have get:∀(x:Str) (v:V) (X:X) (E:En),ay E 2=some _->Sem _ _ _->Sem (C (d+49)) (ev (.met _ (.loc 2) [.lit _,X]) E (BS (Zt Z es) n a)) _:=λ x v X E L h=>
  p7 (by show Sem _ (iY _ _) _;rw [L];exact .rt _) rfl (ai .rr (ai h .rr)) (zG x v)
 have j:∀f,Sem _ (ao N (cW.body.drop 8) (sr b f (.int i) none) _ aM aP) (.ok (.lst (ML (bk b) (.tup [look es "type" .none,look es "data" .none,f,.int i,look es "size" (.int 0),.bool _]) c)) (BS (Zt Z es) n a)):=λ f=>by
  generalize B:V.tup [look es "type" .none,look es "data" .none,f,.int i,look es "size" (.int 0),.bool (told es "auto-merge")]=u
  refine aV (v:=u) (ρ':=sr b f (.int i) (some u)) (σ':=BS (Zt Z es) n a)
   (ah (ai (ah (.ret ⋯) (lD "type" (aW I) z.2.1)) (ai (p7 (w:=.ref 1) (.ret ⋯) ⋯ (.ret (r:=.ok [.str "data"] _) ⋯) (rW "data")) (ai (v:=f) (.ret ⋯) (ai (v:=.int i) (.ret ⋯) (ai (get "size" (.int 0) _ _ rfl .rr) (ai (ah (.ret (r:=.ok [.str "auto-merge",.ref 1] _) ⋯) (ua _)) .rr)))))) ?_) ⋯ ?_
  ·rw [←B,show look es "type" .none=aW I by rw [←h9,z.2.1];rfl];kernel_rfl
  ·have g:=get "elements" (.tup []) (.prim .tup []) ((sr b f (.int i) (some u)).set 6 (some (.lst [ia (bk b) u]))) rfl (.ret ⋯);rw [o.1] at g;have F:Sem (C (d+49)) (ev (.prim (.cmp .NotEq) [.met .eH (.loc 2) _,.prim .tup []]) ((sr b f (.int i) (some u)).set 6 _) (BS (Zt Z es) n a)) (.ok (.bool !c.isEmpty) (BS (Zt Z es) n a)):=ah (ai g (.rr)) (Lj c);cases c with
   | nil=>exact aI F (.ret ⋯)
   | cons v l=>
    exact ak true F (gM (v:=ia "element" (.tup (v::l))) rfl (ah (ai (v:=.str "add") .rr (ai .rr (ai (v:=.str "inet") .rr (ai (v:=.str "t") .rr (ai (v:=.str "s") .rr (ai (ah (.ret ⋯) (lD "elements" _ (getD_some (by rw [h9];exact o.1)))) .rr)))))) ⋯) (by simp) (.ret ⋯))
 rw [(Er (b:=b) o.1),(by unfold dm;rw [e.1]:dm es= .tup _),BO m.1 e.1];have G:=get "flags" (.tup []) (.prim .tup []) (so b) rfl (.ret ⋯);have H:=get "timeout" (.int 0) (.lit (.int 0)) (so b) rfl .rr;rw [m.1] at G;rw [e.1] at H;refine aI p (aV (v:=.tup [.tup (l.map .str),.int i]) (ρ':=sr b (.tup (l.map .str)) (.int i) none) (ah (ai G (ai H .rr)) ⋯) ⋯ ?_);have s:Sem (C (d+49)) (ev (.prim (.cmp .Gt) [.loc 4,.lit (.int 0)]) (sr b (.tup (l.map .str)) (.int i) none) (BS (Zt Z es) n a)) (.ok (.bool !(i==0)) (BS (Zt Z es) n a)):=ah (.ret ⋯) (by rw [gt_int,Kt e.2]);cases q:i==0 with
 | true=>rw [q] at s;exact aI (d_ s) (j _)
 | false=>
 rw [q] at s;have A:Sem (C (d+49)) (ev _ (sr b (.tup (l.map .str)) (.int i) none) (BS (Zt Z es) n a)) (.ok (.bool !(l.any λ y=>y== "timeout")) (BS (Zt Z es) n a)):=(ah (.ret ⋯) (BG _ l):Sem (C (d+49)) (ev (.prim (.cmp .NotIn) [.lit (.str "timeout"),.loc 3]) _ (BS (Zt Z es) n a)) _);cases J:l.any _ with
 | true=>rw [J] at A;exact aI (bQ s A) (j _)
 | false=>
  rw [J] at A;exact ak true (bQ s A) (aV (ρ':=sr b (.tup (l.map .str++ [.str "timeout"])) (.int i) none) (ah (.ret (r:=.ok [.tup (l.map .str),.tup [.str "timeout"]] (BS (Zt Z es) n a)) ⋯) (xZ (o5 (jD (k:=0) (b:=999999) m.2 rfl) 1))) ⋯ (.cv ⋯ (j (.tup _))))
theorem OH(Z:Px)(b)(n){c}(w:Wf c)(I:br c<=31)(J:n+c.length<=100000)(L:Z.xs= []){d}:∃q,C (d+50) 921 [.ref 0,.str (bk b)] (BS Z n c) q/\match bR b n c with
 | .bad y m r=>∃es,q= .ex (.exc y (a7 r).row (a7 r).col) (BS (Zt Z es) m r)
 | .ok es m r=>q= .ok (.lst (fM b es)) (BS (Zt Z es) m r):=by
 obtain ⟨e,j,N⟩:=Z;subst L
 match c,w with
 | t::r,w=>
 have F:=xh (Zt {e,j,[]} []) n t r w.nz (d:=d+42);unfold bR;cases v:aG 1 t.k with
 | error y=>rw [aK v];exact {_,hC.go 0 (.call ⋯ (a9 v F) .rr),[],rfl}
 | ok u=>
 rw [aJ v];have a:=a_.step (n:=n) w λ z=>absurd ((bM v).symm.trans z) ⋯;have i:=c9 rD r (n+1) a.wf;have D:=m9 (Zt {e,j,[]} []) true (n+1) a.wf (d:=d+46);refine (?_:∃q,_/\match (fW b _ [] _ _).bind λ es n r=>cond _ (.ok es n r) _ with | .bad y m r=>_ | .ok es m r=>_);have s:=ag (b1 (i.eq.trans a.eq)) J;have l:=i.len;have g:=ag i.br (ag a.br I)
 revert D s l g i
 refine (?_:_->C _ 770 _ _ (.ok _ (BS _ (aA cg _ r).1 (aA cg _ r).2))->_);generalize aA _ _ r=p;intro i D s l g;have st:∀q,Sem _ (FC _ _ (so b) _) q->C _ 921 [.ref 0,.str _] (BS {e,j,[]} n (t::r)) q:=λ q h=>hC.go (r.length+1) (.call ⋯ (a5 v F) (.call rfl D (.cv rfl h)));have B:=Ib {e,j,[]} (r.length+1) b (d:=d) (r.length+1) [] p.1 p.2 (r.length+1) a8.nil i.wf (sF l) (sF l) g s;generalize fW _ _ _ _ _=x at B ⊢;cases B with
 | bad y E M f k=>exact {_,st _ k,f,rfl}
 | ok f E M A H k=>
  have o:=Ic {e,j,[]} (r.length+1) b f A E H.wf (d:=d);refine (?_:∃q,_/\match (cond _ _ _:Rs (List Td)) with | .bad y m r=>_ | .ok es m r=>_);cases G:told f _ with
  | true=>rw [G] at o;exact {_,st _ (k _ o),rfl}
  | false=>rw [G] at o;exact {_,st _ (k _ o),f,rfl}
end
noncomputable def kW(k:Nat):Bool:=k==2 || k==0
noncomputable def dz:List Tk->Nat
 | []=>0
 | t::r=>cond (kW t.k) 0 (dz r+1)
def xV:∀{a},Wf a->dz a<a.length/\(∃t,a[dz a]? =some t/\kW t.k=true)/\∀j t,j<dz a->a[j]? =some t->kW t.k=false
 :=by
 intro l
 induction l with
 | nil=>
  exact λ w=>w.elim
 | cons t r k=>
  exact λ w=>by
   have e:dz (t::r)=cond _ 0 _:=rfl;refine e▸?_;cases q:kW t.k with
   | true=>exact {Nat.succ_pos _,⟨t,rfl,q⟩,λ j ζ h=>absurd h (gV _)}
   | false=>
    obtain ⟨c,⟨u,d,f⟩,g⟩:=k (w.tl λ z=>by rw [z] at q;contradiction);refine {Nat.succ_lt_succ c,⟨u,d,f⟩,λ j v i b=> ?_};cases j with
    | zero=>cases b;exact q
    | succ j=>exact g j v (qu i) b
def Di:∀{a},hR a=(a.take (dz a)).any λ t=>t.k==8
 :=by
 intro d
 induction d with
 | nil=>
  exact rfl
 | cons t r c=>
  exact by
   have e:dz (t::r)=cond _ 0 _:=rfl;have b:hR (t::r)=(!t.k==0 && (!t.k==2 && (t.k==8 || hR r))):=rfl;simp [e,b];unfold kW;cases g:t.k==2 with
   | true=>simp
   | false=>cases f:t.k==0 with
    | true=>simp
    | false=>simp [c]
def sk:∀(l) (a) (v),v∈e8 a l->∃j x,l[j]? =some x/\v= .tup [.int (a+j:Nat),x]
 :=by
 intro d
 induction d with
 | nil=>
  exact λ a v h=>by contradiction
 | cons x l c=>
  exact λ a v h=>by
   rcases a0.mp h with h | h
   ·exact {0,x,rfl,h}
   ·exact (c _ v h).elim λ j q=>q.elim λ y b=>{j+1,y,b.1,by rw [Nat.add_succ,←uZ];exact b.2}
def Ef:∀(l) (a),e8 a l=(List.range l.length).map λ j=> .tup [.int (a+j:Nat),l.getD j .none]
 :=by
 intro c
 induction c with
 | nil=>
  exact λ a=>rfl
 | cons x l b=>
  exact λ a=>by
   simp only [dx,List.range_succ_eq_map,A5,uX];show V.tup _::e8 _ l=_;simp only [b _]
   congr 1
   refine Bo λ j ζ=>kU a j▸?_;rfl
def F4(v:V):Nat:=((ae v.t? λ l=>ae l.head? λ a=>a.i?).getD 0).toNat
def p1(n:Nat)(a:List Tk)(v:V):Bool:=decide (n<=F4 v) && kW (((a[F4 v-n]?).map Tk.k).getD 1)
def p2(n:Nat)(a:List Tk)(v:V):Bool:=((a[(v.i?.getD 0).toNat-n]?).map Tk.k).getD 1==8
theorem Wf.mem:∀{a},Wf a->∀{i:Nat} {t},a[i]? =some t->t.k<nv
 | [],w,_,_,_=>w.elim
 | u::r,w,0,t,h=>by cases h;exact w.nz
 | u::r,w,i+1,t,h=>by
  by_cases z:u.k=0
  ·have:=w.elim (λ w=>w.2) λ w=>absurd (z▸w.1) (my _);subst this;contradiction
  ·exact (w.tl z).mem h
def Mj{σ}(l):prim (.cmp .Eq) σ [.lst l,.lst []]=some (.bool l.isEmpty):=by cases l<;>kernel_rfl
def zT{C}{ρ}{σ}{x}{l}(h:Sem C (ev x ρ σ) (.ok (.lst l) σ))(q:l.length<=1000000):Sem C (i3 (.nP x) ρ σ) (.ok (e8 0 l) σ):=aC h (aX rfl (gj q .rr))
def GR{C}{ρ}{σ}{x y}{a b}(h:Sem C (ev x ρ σ) (.ok (.int a) σ))(g:Sem C (ev y ρ σ) (.ok (.int b) σ))(q:idx a/\idx b/\b-a<=1000000):Sem C (i3 (.lS x y) ρ σ) (.ok (cp a (b-a).toNat) σ):=aC h (aC g (aX rfl (aX rfl (gj q .rr))))
def Rw{b:List V}{a:List Tk}{n c:Nat}(h:b.drop n=a.map tv)(e:b.length<=100000)(d:c<a.length):n+c<=100000:=by
 have z:=congrArg List.length h;rw [u4,cJ] at z;exact ag (iC (Nat.add_lt_of_lt_sub' (z▸d))) e
def mE(v:Nat)(is:List Nat)(d:Option Dt)(b c e f g a:Option V):En:= [some (.ref 0),some (.str (dk v)),some (.bool true),some (aW is),some (hg d),b,c,e,f,g,a]
section
def AV(v)(f:v<3)(e c)(b)(a){d}:C (d+3) 926 [.ref 0,.str (dk v),.bool false,e,c] (BS ⟨tv b::a.map tv,none,[]⟩ 1 a) (.ex (.exc "No such file or directory" b.row b.col) (BS ⟨tv b::a.map tv,none,[]⟩ 0 (b::a))):=
 hC.go 0 (.call ⋯ (gw _ 0 b _ "No such file or directory") .rr)
def LR(Z)(v)(is)(d0)(n){f}(w:Wf f)(D:Z.toks.drop n=f.map tv/\Z.toks.length<=100000){d}:∃L,Sem (C (d+1)) (ev (.comp (.loc 8) (.tup [.loc 8,.loc 9]) (.nP (.prim .item [.loc 0,.lit (.str "tokens")])) [.ba true [.prim (.cmp .GtE) [.loc 8,.prim .item [.loc 0,.lit (.str "at")]],.ba false [.prim (.cmp .Eq) [.prim .gK [.loc 9,.lit (.int 2)],.prim .tup [.lit (.str "sign"),.lit (.str "}")]],.prim (.cmp .Eq) [.prim .item [.loc 9,.lit (.int 0)],.lit (.str "eof")]]]]) (mE v is d0 none none none none none none) (BS Z n f)) (.ok (.lst (.int (n+dz f:Nat)::L)) (BS Z n f)):=by
 have c:=kJ (C:=C _) (fe:=λ h E=>ev (.loc 8) h E) (ft:=λ h E=>nN [.ba _ _] h E) (t:=.tup [.loc 8,.loc 9]) (I:=λ h=>∃x y,h=mE v is d0 none none none x y none) (p:=p1 n _) (g:=λ v=> .int (F4 v))
  _ _ (λ u h m i=>by
   obtain ⟨x,y,rfl⟩:=i;obtain ⟨j,z,A,rfl⟩:=sk _ _ _ m;rw [jH];refine {mE v is d0 _ _ _ _ _ _,rfl,⟨_,_,rfl⟩,?_,λ ζ=> .rr};have e:p1 n _ (.tup [.int j,z])=(decide (n<=j) && kW ((f[j-n]?.map _).getD 1)):=rfl;rw [e]
   have s:Sem (C (d+1)) (ev (.prim (.cmp .GtE) [.loc 8,.prim .item [.loc 0,.lit (.str "at")]]) (mE v is d0 none none none (some (.int j)) (some z) none) (BS Z n f)) (.ok (.bool (decide (n<=j))) (BS Z n f)):=by
    exact ah .rr (congrArg (λ b=>some (V.bool b)) (decide_eq_decide.mpr qn))
   refine aC (by
    by_cases q:n<=j
    ·rw [jI q] at s ⊢;have r:(f.map tv)[j-n]? =some z:=by rw [←D.1,FV,Nat.add_sub_cancel' q];exact A
     rw [sE] at r;cases B:f[j-n]? with
     | none=>rw [B] at r;cases r
     | some t=>
      rw [B] at r;cases r;exact bQ s (Cl.f3 (F:=λ k=>ev _ (mE v is d0 _ _ _ _ (some (aH k _ _)) _) _) (G:=λ k=> .ok (.bool (kW k)) _) 0 ⋯ (w.mem B))
    ·rw [qp q] at s ⊢
     exact d_ s:Sem _ (ev (.ba _ [.prim _ _,.ba false [.prim (.cmp .Eq) [.prim .gK [.loc 9,.lit (.int 2)],.prim .tup [.lit (.str "sign"),.lit (.str "}")]],.prim (.cmp .Eq) [.prim .item [.loc 9,.lit (.int 0)],.lit (.str "eof")]]]) _ _) (.ok (.bool (decide (n<=j) && kW ((f[j-n]?.map Tk.k).getD 1))) (BS Z n f))) ?_
   cases decide (n<=j) && kW _<;>exact .rt _) ⟨none,none,rfl⟩
 have l:(((e8 0 Z.toks).filter (p1 n f)).map λ v=>V.int (F4 v)).head? =some (.int (n+dz f:Nat)):=by
  obtain ⟨N,⟨t,H,P⟩,Q⟩:=xV w
  have o:=by
   have z:(f.map tv)[dz f]? =some (tv t):=by rw [sE,H];rfl
   rw [←D.1,FV] at z;exact (di.mp z).1
  rw [Ef,List.filter_map,uX,List.head?_map,List.head?_filter]
  rw [(by
   rw [List.find?_range_eq_some];refine {?_,nf.mpr o,λ j A=> ?_}
   ·show (decide (n<=0+(n+dz _)) && kW ((f[0+(n+dz _)-n]?.map _).getD 1))=true;rw [jH,u9,H,jI (ed _ _)];exact P
   ·show (!(decide (n<=0+j) && kW ((f[0+j-n]?.map _).getD 1)))=true;rw [jH];by_cases q:n<=j
    ·rw [jI q];have J:=Nat.sub_lt_left_of_lt_add q A;have M:j-n<f.length:=xn J N;rw [cQ M];rw [show kW (((some _).map _).getD 1)=false from Q _ _ J (cQ M)];rfl
    ·rw [qp q];rfl:List.find? (p1 n f∘λ j=>V.tup [.int _,Z.toks.getD j _]) (List.range _)=some (n+dz _))]
  show some (V.int (0+(n+dz _):Nat))=_;rw [jH]
 revert c l
 cases ((e8 0 _).filter _).map _ with
 | nil=>exact λ ζ l=>by cases l
 | cons a L=>
  intro c l;cases l;refine {L,ji (zT .rr (ag D.2 (eN rfl))) c}
def LQ(Z)(v)(is)(d0)(n)(L){a}(w:Wf a)(y:Z.toks.drop n=a.map tv/\Z.toks.length<=100000){d}:∃M,M.isEmpty= !(hR a)/\Sem (C (d+1)) (ev (.comp (.loc 10) (.loc 10) (.lS (.prim .item [.loc 0,.lit (.str "at")]) (.prim .item [.loc 5,.lit (.int 0)])) [.prim (.cmp .Eq) [.prim .gK [.prim .item [.prim .item [.loc 0,.lit (.str "tokens")],.loc 10],.lit (.int 2)],.prim .tup [.lit (.str "sign"),.lit (.str ":")]]]) (mE v is d0 (some (.lst (.int (n+dz a:Nat)::L))) none none none none none) (BS Z n a)) (.ok (.lst M) (BS Z n a)):=by
 refine (xV w).elim λ A F=> ?_;have b:=Rw y.1 y.2 A
 refine {_,?_,ji ?_ (kJ (I:=λ B=>∃x,B=mE v is d0 _ _ _ _ _ x) (p:=p2 n _) (g:=id)
  (cp n _) _ (λ u B m i=>by
    obtain ⟨x,rfl⟩:=i;obtain ⟨j,mj,rfl⟩:=i0.mp m;have o:=xn (nf.mp mj) A;refine {mE v is d0 _ _ _ _ _ _,rfl,⟨_,rfl⟩,?_,λ ζ=> .rr}
    rw [(by
     show ((a[(n+(j:Int)).toNat-n]?.map _).getD 1==8)=_
     rw [show (n+(j:Int)).toNat-n=j from u9 n j,cQ o];rfl:p2 n _ _=(a[j].k==8))]
    refine aC ((ah (ai (ah (ai (ah .rr (dj y.2 (by
     have z:(a.map tv)[j]? =some (tv a[j]):=by rw [sE,cQ o];rfl
     rw [←y.1,FV] at z;exact z))) .rr) rfl) .rr) (bj (f:=λ k=>prim _ _ [.tup [.str _,.str _],.tup _]) (g:=λ k=>some (.bool (k==8))) ⋯ (w.mem (cQ o)))):Sem _ _ _) ?_
    cases a[j].k==8<;>exact .rt _) ⟨none,rfl⟩)}
 ·simp only [List.map_id,Di];unfold cp;rw [List.filter_map]
  rw [(λ l=>by
   induction l with
   | nil=>exact λ ζ=>rfl
   | cons j l E=>
    intro h
    have D:(p2 n a∘λ (i:Nat)=>V.int (n+i)) j=((a[j]?.map Tk.k).getD 1==8):=by
     show ((a[(n+(j:Int)).toNat-n]?.map _).getD 1==8)=_;rw [show (n+(j:Int)).toNat-n=j from u9 n j]
    simp only [List.any_cons];cases q:(a[j]?.map _).getD 1==8 with
    | true=>rw [List.filter_cons_of_pos (by rw [D,q])];rfl
    | false=>rw [List.filter_cons_of_neg (by simp_all)];exact E λ i m=>h i (.tail _ m):∀(l:List Nat),(∀j∈l,j<dz _)->((l.filter _).map _).isEmpty= !l.any λ j=>(a[j]?.map _).getD 1==8) _ λ j m=>nf.mp m]
  congr 1
  rw [Bool.eq_iff_iff,u3,u3]
  constructor
  ·refine λ c=>c.elim λ j c=> ?_;have s:=nf.mp c.1;have o:=xn s A;exact {a[j],List.mem_take_iff_getElem.mpr {j,Nat.lt_min.mpr ⟨s,o⟩,rfl},cQ o▸c.2}
  ·refine λ e=>e.elim λ t e=> ?_;obtain ⟨j,s,rfl⟩:=List.mem_take_iff_getElem.mp e.1;refine {j,nf.mpr (Nat.lt_min.mp s).1,?_};exact (cQ _)▸e.2
 ·have z:Sem (C (d+1)) (i3 (.lS (.prim .item [.loc 0,.lit (.str "at")]) (.prim .item [.loc 5,.lit (.int 0)])) (mE v is d0 (some (.lst (.int (n+dz a:Nat)::L))) none none none none none) (BS Z n a)) (.ok (cp n ((n+dz a:Nat)-(n:Int)).toNat) (BS Z n a)):=by
   refine GR .rr (ah (.ret (r:=.ok [.lst _,.int (0:Nat)] _) rfl) ?_) ?_
   ·rw [Bz,ve rfl];rfl
   ·exact {ky (ag (ed _ _) b),ky b,Int.sub_left_le_of_le_add (qn.mpr (ee (ag (dg _ n) (ag b (eN rfl))) n))}
  rw [show ((n+dz _:Nat)-(n:Int)).toNat=dz a from (Int.toNat_sub _ _).trans (u9 ..)] at z;exact z
def Ie(Z)(v)(f:v<3)(is)(d0)(h:gG is d0)(n){a}(w:Wf a)(o:br a<=31)(p:n+a.length<=100000){d}:C (d+49) 926 [.ref 0,.str (dk v),.bool true,aW is,hg d0] (BS Z n a) (aw (BS Z) .tup (c_ v is d0 n a)):=hC.val λ i=>by
 obtain ⟨L,k⟩:=LR Z v is d0 n w (i _ (.head _));obtain ⟨M,m,l⟩:=LQ Z v is d0 n L w (i _ (.head _));refine Cl.b6 0 _ _ rfl ⋯ (aI .rr (aV k rfl (aV l rfl ?_)));cases a with
 | nil=>contradiction
 | cons t r=>
 have pk:=rz Z n is h.ki h.kl t r (d:=d+43);have q:gG is none:={h.ki,h.kl,λ ζ e=>by lia}
 have c:∀v b,Sem (C (d+48)) (ao 0 (j9.body.drop 4) (mE v is d0 (some (.lst (.int (n+dz (t::r):Nat)::L))) (some (.lst M)) (some (.bool b)) none none none) _ aM aP) (aw _ _ (cV is (cond b _ d0) _ n _)):=λ v b=>by
  have j:=AW Z n is (cond b _ d0) (by cases b<;>assumption) w o p (e:=d);cases b with
  | true=>exact .call rfl pk (.cv rfl (.cl j .rr))
  | false=>exact .call rfl pk (.call rfl (uR Z n d0 h.da t r) (.cv rfl (.cl j .rr)))
 have g:∀v,Sem _ _ (.ok _ (BS Z n (t::r))):=λ v=>(m▸ah .rr (Mj M):Sem (C (d+48)) (ev (.prim _ [.loc 6,.prim .lst []]) (mE v is d0 (some (.lst (.int (n+dz (t::r):Nat)::L))) (some _) none none none none) _) _);exact Fw (P:=λ v=>Sem _ (ao 0 _ (mE v _ _ _ _ _ _ _ _) _ _ _) (aw _ _ (c_ v _ _ _ _))) f (c 0 _) (aV (g 1) rfl (c 1 _)) (aV (g 2) rfl (c 2 _))
end
def cH(k:Nat):V:=.tup [.str (gI k),.str (txt k)]
def wV(w:List Nat):V:=.str (toS w)
def El:X:=match yB (aY nL 1) with
 | .asg _ x::_=>x
 | _=> .stuck
def MI:X:=match yB (aY nL 1) with
 | _:: .ifs _ (.dy _ x::_) _::_=>x
 | _=> .stuck
def pQ(k:Nat):Str:=cond (gI k== "string") "word" (gI k)
section
variable{C:Cm}{σ:St}{r:R V}{s:Str}
def Pg(a)(o){k}(h:k<69):ev El [some (.str s),some (.lst a),some (wV (wd (k+1))),o] σ= .ret (.ok (.str (pQ (k+1))) σ):=
 bj (f:=λ k=>ev _ [some _,some _,some (wV (wd (k+1))),o] σ) (g:=λ k=> .ret (.ok (.str (pQ (k+1))) σ)) ⋯ h
def Pf(a){k}(h:k<69):ev (.prim (.cmp .NotEq) [.loc 2,.lit (.str "")]) [some (.str s),some (.lst a),some (wV (wd (k+1))),some (.str (pQ (k+1)))] σ= .ret (.ok (.bool true) σ):=
 bj (f:=λ k=>ev _ [some _,some _,some (wV (wd (k+1))),some _] σ) (g:=λ k=> .ret _) rfl h
def Pe(a){k}(h:k<69):ev MI [some (.str s),some (.lst a),some (wV (wd (k+1))),some (.str (pQ (k+1)))] σ= .ret (.ok (cH (k+1)) σ):=
 bj (f:=λ k=>ev _ [some _,some _,some (wV (wd (k+1))),some (.str (pQ (k+1)))] σ) (g:=λ k=> .ret (.ok (cH (k+1)) σ)) ⋯ h
def Pd(a)(o):∃z,ev El [some (.str s),some (.lst a),some (wV []),o] σ= .ret (.ok (.str z) σ):={"word",rfl}
end
def rM:List Y:= [.asg (.loc 3) El,.ifs (.prim (.cmp .NotEq) [.loc 2,.lit (.str "")]) [.dy 1 MI] []]
def vC:Kn:=λ a b=>ao 0 [.lT 1] a b aM aP
section
variable{C:Cm}{σ:St}{s:Str}
def mQ{a}{t}{r:R a}(e:t= .ret r):Sem C t r:=e▸.rt _
variable{ρ:En}{x:X}{v:V}{r:R V}
def wD{n i}{l}{b a}{c}(e:ay ρ i=some (.lst l))(h:Sem C (ev x ρ σ) (.ok v σ))(q:l.length<=1000000)(k:Sem C (ao n c (ρ.set i (some (.lst (l++ [v])))) σ b a) r):Sem C (ao n (.dy i x::c) ρ σ b a) r:=aX e (aX rfl (aC h (gj q k)))
def J8{p}{y}{w u}(h:Sem C (ev x ρ σ) (.ok v σ))(e:qh p σ v=true)(b:Sem C (ev y ρ σ) (.ok w σ))(a:kx p σ v [w]=some u):Sem C (ev (.met p x [y]) ρ σ) (.ok u σ):=aC h (by
 refine (?_:Sem C (cond _ _ _) _)
 exact e▸pH (ai b .rr) (a▸.rt _))
variable{acc ws:List V}{o2 o3:Option V}
def IG{k}(a:1<=k/\k<70)(b:acc.length<=100000)(c:Sem C (Fo 0 (.loc 2) rM vC ws [some (.str s),some (.lst (acc++ [cH k])),some (wV (wd k)),some (.str (pQ k))] σ) r):Sem C (Fo 0 (.loc 2) rM vC (wV (wd k)::ws) [some (.str s),some (.lst acc),o2,o3] σ) r:=by
 obtain ⟨j,e⟩:∃j,k=j+1:={k-1,(Nat.sub_add_cancel a.1).symm};subst e;have q:=qu a.2;exact aV (mQ (Pg acc o3 q)) rfl (ak _ (mQ (Pf acc q)) (wD rfl (mQ (Pe acc q)) (lm b) c))
def MF(a:∀z,Sem C (Fo 0 (.loc 2) rM vC ws [some (.str s),some (.lst acc),some (wV []),some (.str z)] σ) r):Sem C (Fo 0 (.loc 2) rM vC (wV []::ws) [some (.str s),some (.lst acc),o2,o3] σ) r:=(Pd acc o3).elim λ z e=>oJ rfl (aV (mQ e) rfl (a z))
theorem pP:∀(ws:List _) (ks:List Nat) (acc) (o2 o3),ws.filter (λ w=> !w.isEmpty)=ks.map wd->(∀k∈ks,1<=k/\k<70)->acc.length+ks.length<=100000->
 Sem C (Fo 0 (.loc 2) rM vC (ws.map wV) [some (.str s),some (.lst acc),o2,o3] σ) (.ok (.lst (acc++ks.map cH)) σ)
 | [],[],acc,o2,o3,_,_,_=>n6 (by simp [List.map_nil];exact .rr)
 | [],_::_,_,_,_,h,_,_=>nomatch h
 | []::ws,ks,acc,o2,o3,h,b,a=>MF λ z=>pP ws ks acc _ _ h b a
 | (c::w)::ws,[],acc,o2,o3,h,_,_=>nomatch h
 | (c::w)::ws,k::ks,acc,o2,o3,h,b,a=>by
  rw [(List.cons.inj h).1];simp [dx] at a;refine IG (b k (.head _)) (u7 a) ?_;have:=pP ws ks (acc++ [cH k]) (some (wV (wd k))) (some (.str (pQ k))) (List.cons.inj h).2 (λ k h=>b k (.tail _ h)) (by rw [hH,Nat.add_assoc,Bw,Nat.add_comm 1];exact a);simp [jJ] at this;exact this
end
def wz:∀(l a),(gJ a l).length<=l.length+1
 :=by
 intro d
 induction d with
 | nil=>
  exact λ ζ=>bV _
 | cons c l b=>
  exact λ a=>by
   refine (?_:(cond _ _ (gJ _ l)).length<=_);cases c==32
   ·exact Nat.le_add_right_of_le (b _)
   ·exact Nat.le_add_of_sub_le (b [])
def GJ{σ}{s}(h:s.length<=100000):kx .split σ (.str s) [.str " "]=some (.lst ((gJ [] s.cps.toList).map wV)):=by
 have:kx .split σ (.str s) [.str {#[32]}]=some (.lst ((Txt.split s {#[32]}).map .str)):=by
  show gd _ _=_
  rw [gd,if_pos {⋯,lb h,(by
  rw [length_partsBetween];have:=occ_length_le s {#[32]} 0 s.length (s.length+1);unfold cY
  lia)}]
 simp [CZ s] at this;exact this
section
def Gp{d}{σ}{s}{ks:List Nat}(h:ec s.cps.toList=ks.map wd)(c:∀k∈ks,1<=k/\k<70)(a:s.length<=50000):C (d+1) 638 [.str s] σ (.ok (.lst (ks.map cH)) σ):=by
 have e:=wz s.cps.toList []
 have f:=by
  have:=congrArg List.length h;rw [cJ] at this;exact this▸Bv _ _
 have b:(gJ [] s.cps.toList).length<=50001:=ag e (ez a);exact Cl.b6 0 _ [some _,none,none,none] rfl rfl (.cv (t:=ao 0 (.e3 _ _ rM:: [.lT 1]) _ σ _ _) rfl (mR (kI (J8 .rr rfl .rr (GJ (ag a ⋯))) rfl (jD (k:=0) b rfl)) (pP _ ks [] _ _ h c (ag (b1 (jH _)) (ag f (ag b ⋯))))))
end
def AD(k:Nat):Int:=cond (txt k== "\n") 1 0
noncomputable def iW:Nat->Int->List Nat->List Tk
 | n,a,[]=> [{0,a,3*n+1}]
 | n,a,k::b=>{k,a,3*n+1}::iW (n+1) (a+AD k) b
def wL:∀(ks) (n) (a),(iW n a ks).length=ks.length+1
 :=by
 intro c
 induction c with
 | nil=>
  exact λ ζ ζ=>rfl
 | cons k ks b=>
  exact λ n a=>congrArg _ (b _ _)
def z_:∀(ks) (n) (a),(∀k∈ks,1<=k/\k<70)->Wf (iW n a ks)
 :=by
 intro c
 induction c with
 | nil=>
  exact λ ζ ζ ζ=> .inl ⟨rfl,rfl⟩
 | cons k ks b=>
  exact λ n a h=> .inr {(h k (.head _)).1,(h k (.head _)).2,b _ _ λ k q=>h k (.tail _ q)}
def Aa:∀(ks) (n) (a),br (iW n a ks)=ks.count 1
 :=by
 intro c
 induction c with
 | nil=>
  exact λ ζ ζ=>rfl
 | cons k ks b=>
  exact λ n a=>by
   refine (?_:br _+cond (k==1) 1 0=_);rw [b,A9];cases k==1<;>rfl
noncomputable def Si:X:=.prim (.bin .Add) [.prim (.bin .Mult) [.lit (.int 3),.loc 3],.lit (.int 1)]
noncomputable def Qp:X:=.cM (.prim (.cmp .Eq) [.loc 5,.lit (.str "\n")]) (.lit (.int 1)) (.lit (.int 0))
def Fe:List Y:= [.dy 1 (.prim .tup [.loc 4,.loc 5,.loc 2,Si]),.asg (.loc 2) (.prim (.bin .Add) [.loc 2,Qp])]
noncomputable def Fd:Tg:=.tup [.loc 3,.tup [.loc 4,.loc 5]]
noncomputable def Qq:X:=.prim .lst [.prim .tup [.lit (.str "eof"),.lit (.str ""),.loc 2,.prim (.bin .Add) [.prim (.bin .Mult) [.lit (.int 3),.prim (.ek .len) [.loc 0]],.lit (.int 1)]]]
def Ku:Kn:=λ a b=>ao 0 [.j3 1 Qq] a b aM aP
def Rx{σ}{n:Nat}(h:n<=100000):prim (.bin .Mult) σ [.int 3,.int n]=some (.int (3*n)):=by
 show gd _ _=_;rw [gd,if_pos {rfl,by exact jI (fZ h ⋯)}]
section
variable{C:Cm}{σ:St}{ρ:En}{n:Nat}{x:X}{l:List V}
def Dd{i}{w}{b a}{c}(e:ay ρ i=some (.lst l))(h:Sem C (ev x ρ σ) (.ok (.lst w) σ))(q:l.length+w.length<=1000000):Sem C (ao n (.j3 i x::c) ρ σ b a) (.ok (.lst (l++w)) σ):=
 aX e (aX rfl (aC h (aX rfl (gj q .rr))))
def GS(h:Sem C (ev x ρ σ) (.ok (.lst l) σ))(q:l.length<=1000000):Sem C (i3 (.nP x) ρ σ) (.ok (e8 0 l) σ):=
 aC h (aX rfl (gj q .rr))
def z9(h:n<=100000)(e:Sem C (ev x ρ σ) (.ok (.int n) σ)):Sem C (ev (.prim (.bin .Add) [.prim (.bin .Mult) [.lit (.int 3),x],.lit (.int 1)]) ρ σ) (.ok (.int (3*n+1)) σ):=
 ah (ai (ah (ai .rr (ai e .rr)) (Rx h)) .rr) rfl
variable{k:Nat}
def N8(e:∀σ,ev (.prim (.cmp .Eq) [.loc 5,.lit (.str "\n")]) ρ σ= .ret (.ok (.bool (txt k== "\n")) σ)):Sem C (ev Qp ρ σ) (.ok (.int (AD k)) σ):=
 aC (mQ (e σ)) (by
  unfold AD;generalize (txt k== "\n")=b;cases b
  ·exact .rr
  ·exact .rr)
def G_{D}{a}{b}{f g i}{c}{r}(h:n<=100000)(d:a.length<=1000000)
 (e:Sem C (Fo 0 Fd Fe Ku c [some D,some (.lst (a++ [tv {k,b,3*n+1}])),some (.int (b+AD k)),some (.int n),some (.str (gI k)),some (.str (txt k))] σ) r):
 Sem C (Fo 0 Fd Fe Ku (.tup [.int n,cH k]::c) [some D,some (.lst a),some (.int b),f,g,i] σ) r:=oJ rfl (wD rfl (ah (ai .rr (ai .rr (ai .rr (ai (z9 h .rr) .rr)))) rfl) d (aV (ah (ai .rr (ai (N8 λ σ=>rfl) .rr)) rfl) rfl e))
def Ha{L}(d:L.length<=100000):∀(ks) (a) (n) (b) (f g h),a.length=n->n+ks.length=L.length->
 Sem C (Fo 0 Fd Fe Ku (e8 n (ks.map cH)) [some (.lst L),some (.lst a),some (.int b),f,g,h] σ) (.ok (.lst (a++(iW n b ks).map tv)) σ)
 :=by
 intro m
 induction m with
 | nil=>
  exact λ a n b f g h e c=>by
   have c:n=L.length:=c;exact n6 (Dd rfl (ah (ai (ah (ai .rr (ai .rr (ai .rr (ai (z9 (c▸d) (ah .rr (c▸fb (ag d ⋯)))) .rr)))) rfl) .rr) rfl) (ag (ez (ag (b1 (e.trans c)) d)) ⋯))
 | cons k ks j=>
  exact λ a n b f g h e c=>by
   have i:=ag (u7 (b1 c)) d;refine G_ i (e▸ag i ⋯) ?_;have:=j (a++ [tv {k,b,3*n+1}]) (n+1) (b+AD k) (some (.int n)) (some (.str (gI k))) (some (.str (txt k))) (by rw [hH,e];rfl) (by rw [uZ];exact c);simp [jJ] at this;exact this
end
section
def Es{d}{σ}{ks}(b:ks.length<=99999):C (d+1) 714 [.lst (ks.map cH)] σ (.ok (.lst ((iW 0 1 ks).map tv)) σ):=by
 refine Cl.b6 0 _ [some _,none,none,none,none,none] rfl rfl (.cv (t:=ao 0 (.e3 Fd _ Fe:: [.j3 1 Qq]) _ σ _ _) rfl ?_);have a:(ks.map cH).length<=100000:=by rw [cJ];exact nj b
 exact mR (GS .rr (ag a ⋯)) (Ha a ks [] 0 1 _ _ _ rfl (by simp))
end
section
variable{α:Type}
theorem E4:∀(m) (l:List α),m<=l.length->(List.range m).filterMap (l[·]?)=l.take m
 | 0,l,_=>rfl
 | m+1,[],h=>by simp_all
 | m+1,x::l,h=>by
  rw [List.range_succ_eq_map,List.filterMap_cons,List.filterMap_map];show x::(List.range m).filterMap (l[·]?)=_;rw [E4 m l (iD h)];rfl
def Kl(a m)(l:List α)(h:a+m<=l.length):((List.range m).map (a+ ·)).filterMap (l[·]?)=(l.drop a).take m:=by
 simp only [List.filterMap_map,←E4 m (l.drop a) (by rw [u4];exact Nat.le_sub_of_add_le' h)]
 congr 1
 funext k
 simp [FV]
variable{vs:List V}
def mi{lo hi}{a b}(c:lo.elim 0 (clipAt vs.length)=a)(d:hi.elim vs.length (clipAt vs.length)=b)(h:a<=b/\b<=vs.length):dU lo hi none vs=(vs.drop a).take (b-a):=by
 unfold dU yz;simp [sliceBounds_plain,c,d];simp only [sliceRange_one];exact Kl a _ vs (by rw [Nat.add_sub_cancel' h.1];exact h.2)
def II{a b}(h:a<=b/\b<=vs.length):dU (some a) (some b) none vs=(vs.drop a).take (b-a):=
 mi (by refine (?_:clipAt _ a=a);rw [clipAt_nat];exact u0 (ag h.1 h.2)) (by refine (?_:clipAt _ b=b);rw [clipAt_nat];exact u0 h.2) h
def MG{b}(h:b<=vs.length):dU none (some b) none vs=vs.take b:=
 mi rfl (by refine (?_:clipAt _ b=b);rw [clipAt_nat];exact u0 h) {m_ _,h}
def MH{a}(h:a<=vs.length):dU (some a) none none vs=vs.drop a:=by
 rw [mi (by refine (?_:clipAt _ a=a);rw [clipAt_nat];exact u0 h) rfl {h,bV _}];exact List.take_of_length_le (by simp)
end
noncomputable def MT:Str:="{ } ; \n = , . : | type flags elements timeout comment 5 70000 accept jump interval size !s - syn 10.0.0.1 w*"
def ht:List Nat:=(ec MT.cps.toList).map F3
def MQ:ec MT.cps.toList=ht.map wd:=⋯
def B_:(ht.all λ k=>Nat.ble 1 k && Nat.ble k 69)=true:=⋯
def xR:ht.length=25:=⋯
noncomputable def iS(ks:List Nat)(a way w:Nat):List Nat:=match way with
 | 0=>(ks.drop a).take 1
 | 1=> []
 | 2=> [ks.getD a 0,ks.getD a 0]
 | _=> [w]
def chg(ks:List Nat)(way a w:Nat):List Nat:=ks.take a++iS ks a way w++ks.drop (a+1)
section
variable{σ:St}
def JS{L}{i j}:prim .mM σ [.lst L,.int i,.int j]=gd ((idx i=true/\idx j=true)/\L.length<=1000000) (some (V.lst (dU (some i) (some j) none L))):=rfl
def E2{L}{j}:prim .gK σ [.lst L,.int j]=oe (gd (idx j=true/\L.length<=1000000) (some (V.lst (dU none (some j) none L)))) none:=rfl
def NY{L}{i}:prim .mN σ [.lst L,.int i]=gd (idx i=true/\L.length<=1000000) (some (V.lst (dU (some i) none none L))):=rfl
variable{a b:Nat}
def NW{L}(h:a<=b/\b<=L.length)(c:L.length<=100000):prim .mM σ [.lst L,.int a,.int b]=some (.lst ((L.drop a).take (b-a))):=by
 rw [JS,II h,gd,if_pos {{ky (ag h.1 (ag h.2 c)),ky (ag h.2 c)},lm c}]
def Rb{L}(h:b<=L.length)(c:L.length<=100000):prim .gK σ [.lst L,.int b]=some (.lst (L.take b)):=by
 rw [E2,MG h,gd,if_pos {ky (ag h c),lm c}];rfl
def Rc{L}(h:a<=L.length)(c:L.length<=100000):prim .mN σ [.lst L,.int a]=some (.lst (L.drop a)):=by
 rw [NY,MH h,gd,if_pos {ky (ag h c),lm c}]
def add_l{a b}(h:a.length+b.length<=1000000):prim (.bin .Add) σ [.lst a,.lst b]=some (.lst (a++b)):=by
 rw [(rfl:prim _ σ _=oe (gd _ _) none)];rw [gd,if_pos h];rfl
def Fu(h:0<b):prim (.bin .Mod) σ [.int a,.int b]=some (.int (a%b:Nat)):=by
 show gd _ _=_;rw [gd,if_pos (Int.natCast_pos.mpr h)];rw [Int.fmod_eq_emod_of_nonneg _ (xr _)];rfl
end
section
variable{ks:List Nat}{at' way w:Nat}
def xa:(iS ks at' way w).length<=2:=by
 unfold iS
 split
 ·exact Bf▸ag (Nat.min_le_left _ _) (by simp)
 ·simp_all
 ·exact bV _
 ·exact kN _
def Cb(h:at'<ks.length):∃j,ks.length=at'+1+j/\(chg ks way at' w).length=at'+(iS ks at' way w).length+j:=by
 obtain ⟨j,e⟩:=Nat.le.dest h;refine {j,e.symm,?_};unfold chg;rw [hH,hH,Bf,u4,u0 (iC h),←e,u9]
def MR(h:at'<ks.length):ks.length-1<=(chg ks way at' w).length:=(Cb h).elim λ j z=>by
 rw [z.1,z.2];exact Nat.sub_le_of_le_add (sG at' 1 j▸ez (o5 (ed at' _) j))
def MS(h:at'<ks.length):(chg ks way at' w).length<=ks.length+1:=(Cb h).elim λ j z=>by
 rw [z.1,z.2];exact ag (o5 (ee xa at') j) (b1 (sG (at'+1) 1 j))
variable{k:Nat}
def Lq(h:at'<ks.length)(m:k∈iS ks at' way w):k∈ks∨k=w:=by
 unfold iS at m
 split at m
 ·exact .inl (List.mem_of_mem_drop (List.mem_of_mem_take m))
 ·grind
 ·simp_all
 ·exact .inr (cu.mp m)
def IS(h:at'<ks.length)(m:k∈chg ks way at' w):k∈ks∨k=w:=by
 rcases e6.mp m with m | m
 ·rcases e6.mp m with m | m
  ·exact .inl (List.mem_of_mem_take m)
  ·exact Lq h m
 ·exact .inl (List.mem_of_mem_drop m)
def Ca(h:at'<ks.length):(chg ks way at' w).count 1<=ks.count 1+1:=by
 have z:(iS ks at' way w).count 1<=[ks.getD at' 0].count 1+1:=by
  unfold iS
  split
  ·simp only [LX h,LZ,cQ h];exact kN _
  ·exact m_ _
  ·rw [A9,A9];split<;>decide
  ·rw [A9,List.count_nil,jH];exact ag (by split<;>decide) (dg 1 _)
 have c:ks.count 1=(ks.take at').count 1+([ks.getD at' 0].count 1+(ks.drop (at'+1)).count 1):=by
  conv=>lhs;rw [(by simp_all:ks=ks.take at'++ks.getD at' 0::ks.drop (at'+1))]
  simp [A9];lia
 unfold chg;simp only [List.count_append]
 lia
section
def Cj{d:Nat}{σ:St}{ks:List Nat}{way place w:Nat}(n:ks.length<=90000)(i:0<ks.length)(o:way<4)(f:w<25):
 C (d+2) 707 [.lst (ks.map cH),.int way,.int place,.int w] σ (.ok (.lst ((chg ks way (place%ks.length) (ht.getD w 0)).map cH)) σ):=by
 have a:(ks.map cH).length<=100000:=by rw [cJ];exact ag n ⋯
 have c:=Nat.mod_lt place i;have L:(ks.map cH).length=ks.length:=cJ ..
 have l:ht[w]? =some (ht.getD w 0):=by
  rw [LZ,cQ (by exact xR▸f)];rfl
 have g:ks[place%ks.length]? =some (ks.getD (place%ks.length) 0):=by simp_all
 refine Cl.b6 0 mC _ rfl (rfl) (aV (ah (ai .rr (ai (ah .rr ((fb (lb a)).trans (by exact L▸rfl))) .rr)) (Fu i)) rfl ?_);generalize place%ks.length=p at c g ⊢;refine aV (σ':=σ) (v:=cH (ht.getD w 0)) ?_ rfl ?_
 ·refine ah (ai (.call rfl (Gp MQ (λ k m=> ?_) (eN rfl)) .rr) (.rr)) (dj ⋯ (by rw [sE,l];rfl));have z:=nq.mp (gy.mp B_ k m);exact {eN z.1,sF (eN z.2)}
 generalize ht.getD w 0=b
 have h:Sem (C (d+1)) (ev (.prim _ [.loc 0,.loc 4]) [some _,some (.int way),some (.int place),some (.int w),some (.int p),some (cH b),none] σ) _:=
  ah ((.rr)) (dj a (by rw [sE,g];rfl))
 refine aV (σ':=σ) (v:=.lst ((iS ks p way b).map cH)) (ρ':= [some (.lst (ks.map cH)),some (.int way),some (.int place),some (.int w),some (.int p),some (cH b),some (.lst ((iS ks p way b).map cH))]) (ah (vs:= [.lst [V.lst _,.lst [],.lst [cH (ks.getD p 0),cH (ks.getD p 0)],.lst [cH b]],.int way]) (ai ?_ (.rr)) (dj (eN rfl) (by
  rcases (by decide:∀w<4,w=0∨w=1∨w=2∨w=3) way o with rfl | rfl | rfl | rfl
  ·exact (show some (V.lst (((ks.map cH).drop p).take 1))=some (V.lst (((ks.drop p).take 1).map cH)) by rw [List.map_take,List.map_drop])
  ·exact rfl
  ·exact rfl
  ·exact rfl))) ⋯ ?_
 ·refine ah (vs:= [V.lst _,.lst [],.lst [cH (ks.getD p 0),cH (ks.getD p 0)],.lst [cH b]]) (ai (ah (ai (.ret ⋯) (ai (.ret ⋯) (ai (.ret ⋯) .rr))) (by rw [NW {ed p 1,by exact L▸c} a,u9])) (ai (.ret ⋯) (ai (ah (ai h (ai h .rr)) ⋯) (ai (.ret ⋯) .rr)))) ⋯
 ·have lm:((iS ks p way b).map cH).length<=2:=by rw [cJ];exact xa
  have j:((ks.map cH).take p).length<=100000:=ag (List.length_take_le' ..) a;have ld:((ks.map cH).drop (p+1)).length<=100000:=ag (u4▸Nat.sub_le ..) a;have e:(chg ks way p b).map cH=(ks.map cH).take p++(iS ks p way b).map cH++(ks.map cH).drop (p+1):=by unfold chg;rw [qo,qo,List.map_take,List.map_drop]
  refine e▸fG (ah (ai (ah (ai (ah ((ai (.ret ⋯) .rr)) (Rb (by exact L▸iC c) a)) (ai (.ret ⋯) .rr)) (add_l (ag (kcj j lm) ⋯))) (ai (ah (ai (.ret ⋯) (ai (.ret ⋯) .rr)) (Rc (by exact L▸c) a)) .rr)) (add_l (by rw [hH];exact ag (kcj (kcj j lm) ld) ⋯)))
end
end
section
inductive Dq:Nat->V->Prop
 | none {n:Nat}:Dq n .none
 | bool {n:Nat} (b:Bool):Dq n (.bool b)
 | int {n:Nat} (i:Int):Dq n (.int i)
 | str {n:Nat} (s:Str):Dq n (.str s)
 | tup {n:Nat} {vs:List V} (h:∀v∈vs,Dq n v):Dq (n+1) (.tup vs)
 | lst {n:Nat} {vs:List V} (h:∀v∈vs,Dq n v):Dq (n+1) (.lst vs)
def vu{f}{vs}:(∀v∈vs,f v v=some true)->mD f vs vs=some true:=by
 induction vs with
 | nil=>exact λ ζ=>rfl
 | cons v vs a=>
  refine λ h=>(?_:ae _ _=some _);rw [h v (.head _),a λ v m=>h v (.tail _ m)];rfl
variable{n:Nat}{v:V}
def Dq.eq(h:Dq n v):∀m,n<=m->la m v v=some true:=by
 have d:∀{v},(∀f,eqB f v v=some _)->∀m,la m v v=some true:=λ h m=>by cases m<;>exact h _
 induction h with
 | none=>exact λ m ζ=>d (λ ζ=>rfl) m
 | bool b=>exact λ m ζ=>d λ f=>by refine (?_:some _=some _);rw [ff] m
 | int b=>exact λ m ζ=>d λ f=>by refine (?_:some _=some _);rw [ff] m
 | str b=>exact λ m ζ=>d λ f=>by refine (?_:some _=some _);rw [ff] m
 | @tup _ a _ e=>
  intro m c;cases m with
  | zero=>cases c
  | succ m=>
   refine (?_:oe (oe (mD _ a a) _) _=some _);rw [vu λ v k=>e v k m (iD c)];rfl
 | @lst _ a _ e=>
  intro m c;cases m with
  | zero=>cases c
  | succ m=>
   refine (?_:oe (if a.length=a.length then mD _ a a else some _) _=some _);rw [if_pos rfl,vu λ v k=>e v k m (iD c)];rfl
noncomputable def Rs.sat{b:Type}(Q:b->Prop):Rs b->Prop
 | .ok a _ _=>Q a
 | .bad _ _ _=>True
variable{α:Type}
def Rs.sat.bind{b}{P}{Q:b->Prop}{x:Rs α}{f}(h:x.sat P)(k:∀a n r,P a->(f a n r).sat Q):(x.bind f).sat Q:=by
 cases x with
 | ok a n r=>exact k a n r h
 | bad=>exact trivial
def Rs.sat.top{x:Rs α}:x.sat λ ζ=>True:=by cases x<;>exact trivial
variable{b:Bool}
theorem Rs.sat.cond{Q}{x y:Rs α}(h:x.sat Q)(k:y.sat Q):(cond b x y).sat Q:=by cases b;exact k;exact h
def Dq.map{f:α->V}(h:∀a,Dq n (f a))(l:List α):∀v∈l.map f,Dq n v:=λ v m=>(i0.mp m).elim λ a z=>z.2▸h a
variable{Q:V->Prop}{a:V}
def jt{b}(c:Q a)(d:Q b):∀v∈[a,b],Q v:=λ v m=>(a0.mp m).elim (λ e=>e▸c) λ m=>cu.mp m▸d
def kX{b c d}(f:Q a)(g:Q b)(h:Q c)(i:Q d):∀v∈[a,b,c,d],Q v:=λ v m=>(a0.mp m).elim (λ e=>e▸f) λ m=>(a0.mp m).elim (λ e=>e▸g) (jt h i v)
def G2(d)(n)(r):(eY d n r).sat (Dq 2):=by
 cases d with
 | cU=>exact Rs.sat.top.bind λ p n r ζ=> .tup (jt (.str _) (.str _))
 | keys c=>exact Rs.sat.top.bind λ l n r ζ=> .tup (Dq.map .int l)
def G0(is)(d)(n)(r):(hP is d n r).sat (Dq 3):=by
 have e:∀c:List _,Dq 2 (.tup (c.map bg)):=λ c=> .tup (Dq.map (λ p=> .tup (jt (.int _) (.int _))) c);refine Rs.sat.top.bind λ c n r ζ=>Rs.sat.top.bind λ h n r ζ=>Rs.sat.top.bind λ g n r ζ=> ?_;cases d with
 | none=>exact .tup (kX (e c) .none (.int _) (.str _))
 | some d=>exact Rs.sat.top.bind λ ζ n r ζ=>(G2 d n r).bind λ v n r f=> .tup (kX (e c) f (.int _) (.str _))
def q_(is)(d)(f):(∀n r,(cV is d f n r).sat λ l=>∀v∈l,Dq 3 v)/\∀c n r,(∀v∈c,Dq 3 v)->(mT is d f c n r).sat λ l=>∀v∈l,Dq 3 v:=by
 induction f with
 | zero=>exact {λ ζ ζ=>trivial,λ ζ ζ ζ ζ=>trivial}
 | succ f g=>
  refine {λ n r=>Rs.sat.top.bind λ ζ n r ζ=>(g.2 [] _ _ nofun).bind λ l n r e=>Rs.sat.top.bind λ ζ n r ζ=>e,λ c n r i=> .cond i (Rs.sat.bind (.cond (g.1 n r) ((G0 is d n r).bind λ v n r j=>λ w m=>cu.mp m▸j)) λ l n r e=> ?_)};have h:=λ v m=>(e6.mp m).elim (i v) (e v);exact .cond (g.2 _ _ _ h) h
noncomputable def Td.dq:Td->Prop
 | .el c=>∀v∈c,Dq 3 v
 | _=>True
variable{es:List Td}
def jh{e:Td}(h:∀x∈es,x.dq)(k:e.dq):∀x∈es++ [e],x.dq:=λ x m=>(e6.mp m).elim (h x) λ m=>cu.mp m▸k
def GW(b)(es)(n)(r)(h:∀x∈es,x.dq):(mS b es n r).sat λ es=>∀x∈es,x.dq:=by
 refine .cond (.cond trivial (.cond trivial ?_)) trivial;have c:∀{x y:Td},x.dq->y.dq->∀z∈es++ [x,y],z.dq:=λ {x y} g i z m=>(e6.mp m).elim (h z) λ m=>(a0.mp m).elim (λ e=>e▸g) λ m=>cu.mp m▸i
 split
 ·exact Rs.sat.top.bind λ d n r ζ=> .cond (Rs.sat.top.bind λ ζ n r ζ=> .cond (c trivial trivial) (Rs.sat.top.bind λ j n r ζ=>c trivial trivial)) (jh h trivial)
 ·exact Rs.sat.top.bind λ d n r ζ=>jh h trivial
 ·exact Rs.sat.top.bind λ d n r ζ=>jh h trivial
 ·exact Rs.sat.top.bind λ d n r ζ=>jh h trivial
 ·exact jh h trivial
 ·exact Rs.sat.top.bind λ ζ n r ζ=>((q_ _ _ _).1 _ _).bind λ l n r f=>jh h f
def lQ(b)(n)(r):(bR b n r).sat λ es=>∀x∈es,x.dq:=Rs.sat.top.bind λ ζ n r ζ=>((λ f=>by
 induction f with
 | zero=>exact λ es n r h=>h
 | succ f c=>exact λ es n r h=> .cond h ((GW b es n r h).bind λ es n r h=>Rs.sat.top.bind λ ζ n r ζ=>c es n r h):∀f es n r,(∀x∈es,Td.dq x)->(fW b f es n r).sat λ es=>∀x∈es,x.dq) _ [] _ _ λ ζ m=>by grind).bind λ es n r h=> .cond h trivial
def jm(h:∀x∈es,x.dq)(w)(v)(g:Dq 4 v):Dq 4 (look es w v):=by
 unfold look;cases q:es.find? _ with
 | none=>exact g
 | some e=>exact (λ e k=>by
  have c:∀{n} f,Dq (n+1) (aW f):=λ f=> .tup (Dq.map (λ ζ=> .str _) f);cases e with
  | ty f=>exact c f
  | da d=>cases d;exact .str _;exact c _
  | fl f=>exact .tup (Dq.map (λ ζ=> .str _) _)
  | tm i=>exact .int i
  | sz i=>exact .int i
  | au=>exact .bool _
  | el j=>exact .tup k:∀e,e.dq->Dq 4 e.val) e (h e (List.mem_of_find?_eq_some q))
def Mi(es):∃l,iI es= .tup l/\(iI.flq es=l∨l=iI.flq es++ [.str "timeout"]):=by
 unfold iI;cases iI.tmq es && !iI.tmin es with
 | true=>exact {_,rfl,.inr rfl}
 | false=>exact {_,rfl,.inl rfl}
def BN(h:∀x∈es,x.dq):∀v∈iI.flq es,Dq 3 v:=by
 have z:=jm h "flags" (.tup []) (.tup nofun);unfold iI.flq;generalize look es _ _=v at z;cases z<;>first | (intro v m;cases m;done) | assumption
def qX(h:∀x∈es,x.dq):Dq 5 (dm es):=.tup λ v m=>by
 rcases a0.mp m with e | m
 ·exact e▸jm h _ _ .none
 rcases a0.mp m with e | m
 ·exact e▸jm h _ _ .none
 rcases a0.mp m with e | m
 ·subst e;obtain ⟨l,e,q⟩:=Mi es;rw [e];refine .tup λ v m=> ?_
  rcases q with q | q
  ·exact BN h v (q▸m)
  ·subst q;exact (e6.mp m).elim (BN h v) λ m=>cu.mp m▸.str _
 rcases a0.mp m with e | m
 ·exact e▸jm h _ _ (.int _)
 rcases a0.mp m with e | m
 ·exact e▸jm h _ _ (.int _)
 exact cu.mp m▸.bool _
def B8{k}(h:Dq n v):Dq (n+1) (ia k v):=.tup λ w m=>by
 rcases a0.mp m with e | m
 ·exact e▸.str _
 rcases a0.mp m with e | m
 ·exact e▸.str _
 exact kX (.str _) (.str _) (.str _) h w m
def Dq.mono(h:Dq n v):∀m,n<=m->Dq m v:=by
 induction h with
 | none=>exact λ ζ ζ=> .none
 | bool b=>exact λ ζ ζ=> .bool b
 | int b=>exact λ ζ ζ=> .int b
 | str b=>exact λ ζ ζ=> .str b
 | tup _ d=>
  intro m c;cases m with
  | zero=>cases c
  | succ m=>exact .tup λ v k=>d v k m (iD c)
 | lst _ d=>
  intro m c;cases m with
  | zero=>cases c
  | succ m=>exact .lst λ v k=>d v k m (iD c)
set_option tactic.hygienic true in
def xP(h:∀x∈es,x.dq):Dq 7 (.lst (fM b es)):=.lst λ v m=>by
 have z:=jm h "elements" (.tup []) (.tup nofun);have c:=B8 (k:=bk b) (qX h);unfold fM at m;generalize look es _ _=v at z m;have one:∀v∈[ia _ _],Dq 6 v:=λ v m=>cu.mp m▸c
 cases z<;>first
  | exact one _ m
  | (rename_i d k
     cases d with
     | nil=>exact one _ m
     | cons a l=>exact jt c ((B8 (.tup k)).mono 6 ⋯) _ m)
end
section
def jk{vs}:(∀v∈vs,nr v=true)->K9 vs=true:=by
 induction vs with
 | nil=>exact λ ζ=>rfl
 | cons v vs a=>exact λ h=>show (nr v && K9 vs)=true by rw [h v (.head _),a λ v m=>h v (.tail _ m)];rfl
variable{n:Nat}{v:V}
theorem Dq.nr(h:Dq n v):nr v=true:=by
 induction h with
 | none=>rfl
 | bool=>rfl
 | int=>rfl
 | str=>rfl
 | tup _ a=>exact jk a
 | lst _ a=>exact jk a
def NM(t):Dq 1 (tv t):=.tup λ v m=>by
 rcases a0.mp m with e | m
 ·exact e▸.str _
 rcases a0.mp m with e | m
 ·exact e▸.str _
 exact jt (.int _) (.int _) v m
def wq(T:List Tk):nr (.lst (T.map tv))=true:=jk λ v m=>(i0.mp m).elim λ t z=>z.2▸(NM t).nr
def lF(h:v.r? =none)(k:nr v=true):tR n v=true:=by unfold tR;exact h▸k
def kK{f}(h:v.r? =none):cb f v=v:=by unfold cb;exact h▸rfl
section
variable{d g:Nat}{about v:V}{σ σ':St}
def yf(h:C d g [about] σ (.ok v σ')):C (d+1) 938 [.fn g,about] σ (.ok (.tup [.str "read",v]) σ'):=hC.go 0 (.call rfl h .rr)
def qU{w}{a b}(h:C d g [about] σ (.ex (.exc w a b) σ')):C (d+1) 938 [.fn g,about] σ (.ok (.tup [.str "bad",.str w,.int a,.int b]) σ'):=hC.go 0 (.call rfl h .rr)
def cn{C}{ρ}{a b}{x}{c}{vs}(h:Sem C (ev x ρ σ) (.ok v a))(k:Sem C (cw c ρ a) (.ok vs b)):Sem C (cw (x::c) ρ σ) (.ok (v::vs) b):=aC h (aC k .rr)
variable{j:Nat}{s n:V}
def Q0(h:C d 582 [.ref j,.str "add",s,.str "s"] σ (.ok v σ'))(a:fw σ' "at" (.ref j)=some n):C (d+1) 945 [.tup [.ref j,s]] σ (.ok (.tup [v,n]) σ'):=
 Cl.b6 0 _ [some _] rfl rfl (fG (ah (cn (.call rfl h .rr) (ai (ah .rr a) .rr)) rfl))
variable{e:V}
def NJ(h:C d 582 [.ref j,.str "add",s,.str "s"] σ (.ex e σ')):C (d+1) 945 [.tup [.ref j,s]] σ (.ex e σ'):=hC.go 0 (.call rfl h .rr)
def Q4(h:C d 589 [.ref j,s,.str "s"] σ (.ok v σ'))(a:fw σ' "at" (.ref j)=some n):C (d+1) 959 [.tup [.ref j,s]] σ (.ok (.tup [v,n]) σ'):=
 Cl.b6 0 _ [some _] rfl rfl (fG (ah (cn (.call rfl h .rr) (ai (ah .rr a) .rr)) rfl))
def EN(h:C d 589 [.ref j,s,.str "s"] σ (.ex e σ')):C (d+1) 959 [.tup [.ref j,s]] σ (.ex e σ'):=hC.go 0 (.call rfl h .rr)
def Q5(h:C d 921 [.ref j,s] σ (.ok v σ'))(a:itemOf σ' (.ref j) (.str "at")=some n):C (d+1) 952 [.tup [.ref j,s]] σ (.ok (.tup [v,n]) σ'):=
 Cl.b6 0 _ [some _] rfl rfl (fG (ah (cn (.call rfl h .rr) (ai (ah .rr a) .rr)) rfl))
def NK(h:C d 921 [.ref j,s] σ (.ex e σ')):C (d+1) 952 [.tup [.ref j,s]] σ (.ex e σ'):=hC.go 0 (.call rfl h .rr)
variable{a1 a2 a3 a4:V}
def Q6(h:C d 926 [.ref j,a1,a2,a3,a4] σ (.ok v σ'))(a:itemOf σ' (.ref j) (.str "at")=some n):C (d+1) 966 [.tup [.ref j,a1,a2,a3,a4]] σ (.ok (.tup [v,n]) σ'):=
 Cl.b6 0 _ [some _] rfl rfl (fG (ah (cn (.call rfl h .rr) (ai (ah .rr a) .rr)) rfl))
def EO(h:C d 926 [.ref j,a1,a2,a3,a4] σ (.ex e σ')):C (d+1) 966 [.tup [.ref j,a1,a2,a3,a4]] σ (.ex e σ'):=hC.go 0 (.call rfl h .rr)
end
def gz(L:List V)(n:Nat):O:=.dict zD [.lst L,.int n]
def wI(L:List V)(n a pk:Nat):O:=.inst 322 zN [.lst L,.int n,.ref a,.ref pk,.str "inet",.str "t"]
def GL{B:St}{p}{o}(h:p<B.length):(B.set p o).length=B.length/\(B.set p o)[p]? =some o/\∀j,p≠j->(B.set p o)[j]? =B[j]? :={sD,qs h,λ j k=>ny k}
section
def nM{d f n m:Nat}{vs}{B}{p}{T r1:List Tk}{c}{es:St}{q x}(D:B[p]? =some (gz (T.map tv) n))(H:(T.map tv).drop n=c/\(T.map tv).length<=100000)(u:vs.all (tR 1)=true)
 (h:C d f vs (.zip false (T.map tv) n c []::es) q) (F:es= []) (G:(∃v es',q= .ok v (.zip false (T.map tv) m (r1.map tv) []::es')/\v.r? =none/\nr v=true/\x= .ok v (B.set p (gz (T.map tv) m)))∨∃w a b es',q= .ex (.exc w a b) (.zip false (T.map tv) m (r1.map tv) []::es')/\x= .ex (.exc w a b) (B.set p (gz (T.map tv) m))):
 C d f (vs.map (cb λ ζ=>p)) B x:=by
 subst F;have E:=(di.mp D).1;have y:=GL (o:=gz (T.map tv) m) E;have g:∀k,oR 1 (gz _ k)=true:=λ k=>show (nr (.lst _) && true)=true by rw [wq T];rfl
 have l:∀es',Res (λ ζ=>p) 1 (.zip false _ m (r1.map tv) []::es') B _:=λ es'=>{y.1,λ i t=>by
  cases i with
  | zero=>exact {_,_,rfl,y.2.1,trivial,g m,rfl}
  | succ i=>exact absurd t (by lia),λ j k=>y.2.2 j (k 0 Nat.one_pos)}
 refine hC.frame (n:=1) h rfl (λ i ζ=>E) (λ i j s A k=>absurd k (by lia)) {λ i t=> ?_} u ?_
 ·cases i with
  | zero=>exact {_,_,rfl,D,H,trivial,g n,rfl}
  | succ i=>exact absurd t (by lia)
 ·rcases G with ⟨v,es',e,s,A,r⟩ | ⟨w,a,b,es',e,r⟩
  ·subst e r;have z:=x5.ok v _ _ (lF s A) (l es');rw [kK s] at z;exact z
  ·subst e r;exact .ex w a b _ _ (l es')
end
end
noncomputable def E_(pr a pk:Nat)(i:Nat):Nat:=match i with
 | 0=>pr
 | 1=>a
 | _=>pk
def vU(o:Option (List Str×V)):Prop:=match o with
 | some p=>p.2.r? =none/\nr p.2=true
 | none=>True
def vU.z4{o}(h:vU o)(f):O.known o=yw f (.known o):=by
 cases o with
 | none=>rfl
 | some p=>
  show O.known _=O.known (some (p.1,cb f p.2));rw [kK h.1]
theorem vU.oR{o}(h:vU o)(n):oR n (.known o)=true:=by
 cases o with
 | none=>rfl
 | some p=>exact lF h.1 h.2
structure mm(B:St)(pr pt pk:Nat)(L:List V)(n:Nat)(kn:Option (List Str×V)):Prop where
 r:B[pr]? =some (wI L n pt pk)
 t:B[pt]? =some eU
 k:B[pk]? =some (.known kn)
 d1:pr≠pt
 d2:pr≠pk
 d3:pt≠pk
def wJ(B:St)(pr b pk:Nat)(L:List V)(n:Nat)(a:Option (List Str×V)):St:=(B.set pr (wI L n b pk)).set pk (.known a)
def mm.to{B}{pr a pk n m}{L}{b kn'}(h:mm B pr a pk L n b):mm (wJ B pr a pk L m kn') pr a pk L m kn':=by
 refine {?_,?_,?_,h.d1,h.d2,h.d3}
 ·refine (?_:((B.set pr _).set pk _)[pr]? =_);rw [ny (Ne.symm h.d2),qs (di.mp h.r).1]
 ·refine (?_:((B.set pr _).set pk _)[a]? =_);rw [ny (Ne.symm h.d3),ny h.d1,h.t]
 ·refine (?_:((B.set pr _).set pk _)[pk]? =_);rw [qs (by rw [sD];exact (di.mp h.k).1)]
section
def nJ{d f n m:Nat}{vs}{B}{pr t pk}{T r1:List Tk}{l}{F kn'}{q G}(c:mm B pr t pk (T.map tv) n F)(J:(T.map tv).drop n=l/\(T.map tv).length<=100000)(k1:vU F)(k2:vU kn')(E:vs.all (tR 3)=true)
 (h:C d f vs [.zip true (T.map tv) n l [.ref 1,.ref 2,.str "inet",.str "t"],eU,.known F] q)
 (I:(∃v es,q= .ok v (.zip true (T.map tv) m (r1.map tv) [.ref 1,.ref 2,.str "inet",.str "t"]::eU:: .known kn'::es)/\v.r? =none/\nr v=true/\G= .ok v (wJ B pr t pk (T.map tv) m kn'))∨∃w a b es,q= .ex (.exc w a b) (.zip true (T.map tv) m (r1.map tv) [.ref 1,.ref 2,.str "inet",.str "t"]::eU:: .known kn'::es)/\G= .ex (.exc w a b) (wJ B pr t pk (T.map tv) m kn')):
 C d f (vs.map (cb (E_ pr t pk))) B G:=by
 have s:∀{P:Nat->Prop},P 0->P 1->P 2->∀i,i<3->P i:=λ H x A i D=>by
  match i,D with
  | 0,_=>exact H
  | 1,_=>exact x
  | 2,_=>exact A
 have g:∀k,∀r,oR 3 (norm (.zip true _ k r [.ref 1,.ref 2,.str "inet",.str "t"]))=true:=λ k r=>show (nr (.lst _) && true)=true by rw [wq T];rfl
 have p:=c.to (m:=m) (kn':=kn')
 have u:∀es,Res (E_ pr t pk) 3 (.zip _ _ m (r1.map tv) _::eU:: .known kn'::es) B _:=λ es=>
  {by refine (?_:((B.set pr _).set pk _).length=_);rw [sD,sD],s {_,_,rfl,p.r,trivial,g m _,rfl} ⟨_,_,rfl,p.t,trivial,rfl,rfl⟩ {_,_,rfl,p.k,trivial,k2.oR 3,k2.z4 _},λ j k=>by
   refine (?_:((B.set pr _).set pk _)[j]? =_)
   rw [ny (show pk≠j from k 2 (Nat.lt_add_one 2)),ny (show pr≠j from k 0 (by simp))]}
 refine hC.frame (n:=3) h rfl (s (di.mp c.r).1 (di.mp c.t).1 (di.mp c.k).1) (λ i j D=> ?_) {s {_,_,rfl,c.r,J,trivial,g n _,rfl} ⟨_,_,rfl,c.t,trivial,trivial,rfl,rfl⟩ {_,_,rfl,c.k,trivial,trivial,k1.oR 3,k1.z4 _}} E ?_
 ·revert j
  exact s (P:=λ i=>∀j,j<3->i≠j->E_ pr t pk i≠E_ pr t pk j) (s (λ h=>absurd rfl h) (λ ζ=>c.d1) λ ζ=>c.d2) (s (λ ζ=>Ne.symm c.d1) (λ h=>absurd rfl h) λ ζ=>c.d3) (s (λ ζ=>Ne.symm c.d2) (λ ζ=>Ne.symm c.d3) λ h=>absurd rfl h) i D
 ·rcases I with ⟨v,o,e,x,A,y⟩ | ⟨w,a,b,o,e,y⟩
  ·subst e y;have z:=x5.ok v _ _ (lF x A) (u o);simp [kK x] at z;exact z
  ·subst e y;exact .ex w a b _ _ (u o)
end
section
noncomputable def t9{b:Type}(f:b->V):Rs b->V
 | .ok a n _=> .tup [.str "read",.tup [f a,.int n]]
 | .bad w _ r=> .tup [.str "bad",.str w,.int (a7 r).row,.int (a7 r).col]
noncomputable def oP{a:Type}:Rs a->Nat
 | .ok _ n _=>n
 | .bad _ n _=>n
variable{B:St}{m:Nat}{L:List V}
def Gu{p}(h:p<B.length):itemOf (B.set p (gz L m)) (.ref p) (.str "at")=some (.int m):=by
 show oe (ae (ae _ _) _) _=_;refine qs h▸?_;rfl
def E9{pr b pk}{a}(h:mm B pr b pk L m a):fw B "at" (.ref pr)=some (.int m):=by
 show oe (ae B[pr]? _) _=_;rw [h.r];rfl
def xO{b}{n}{r}{es}{r'}(h:bR b n r= .ok es m r'):nr (.lst (fM b es))=true:=by
 have z:=lQ b n r;rw [h] at z;exact (xP z).nr
noncomputable def LS:Rs (List Td)->Option (List Str×V)
 | .ok a _ _=>some (iA "s",dm a)
 | .bad _ _ _=>none
def tQ(b:Bool)(es:List Td):V:=.lst (fM b es)
section
variable{d p:Nat}{B:St}{T:List Tk}
def Pt(b)(c:B[p]? =some (gz (T.map tv) 0))(w:Wf T)(j:br T<=31)(g:T.length<=100000):
 C (d+52) 938 [.fn 952,.tup [.ref p,.str (bk b)]] B (.ok (t9 (tQ b) (bR b 0 T)) (B.set p (gz (T.map tv) (oP (bR b 0 T))))):=by
 refine OH {T.map tv,none,[]} b 0 w j (by rw [jH];exact g) rfl (d:=d).elim λ q q=>q.elim λ f a=> ?_;have h:(T.map tv).drop 0=T.map tv/\(T.map tv).length<=100000:={rfl,by rw [cJ];exact g};cases e:bR b 0 T with
 | bad y m r=>
  rw [e] at a;obtain ⟨i,a⟩:=a;exact qU (NK (nM c h rfl f rfl (.inr ⟨_,_,_,_,a,rfl⟩)))
 | ok i m r=>
  rw [e] at a;exact yf (Q5 (nM c h rfl f rfl (.inl {_,_,a,rfl,xO e,rfl})) (Gu (di.mp c).1))
variable{pr pt pk:Nat}
def N7(b)(c:mm B pr pt pk (T.map tv) 0 none)(w:Wf T)(j:br T<=31)(g:T.length<=100000):
 C (d+57) 938 [.fn 945,.tup [.ref pr,.str (bk b)]] B (.ok (t9 (tQ b) (bR b 0 T)) (wJ B pr pt pk (T.map tv) (oP (bR b 0 T)) (LS (bR b 0 T)))):=by
 refine Oc {T.map tv,none,[]} b 0 w j (by rw [jH];exact g) rfl rfl (d:=d).elim λ q q=>q.elim λ f a=> ?_;have h:(T.map tv).drop 0=T.map tv/\(T.map tv).length<=100000:={rfl,by rw [cJ];exact g};cases e:bR b 0 T with
 | bad y m r=>
  rw [e] at a;obtain ⟨i,a⟩:=a;exact qU (NJ (nJ c h (kn':=none) trivial trivial rfl f (.inr ⟨_,_,_,_,a,rfl⟩)))
 | ok i m r=>
  rw [e] at a
  exact yf (Q0 (nJ c h trivial (kn':=some _) {rfl,(by
   have z:=lQ b 0 T;rw [e] at z
   exact (qX z).nr)} rfl f (.inl {_,_,a.2.2.2,rfl,xO e,rfl})) (E9 c.to))
variable{v:Nat}{is:List Nat}{d0:Option Dt}
def BX{n}{r}{l}{m}{r'}(h:c_ v is d0 n r= .ok l m r'):nr (.tup l)=true:=by
 have z:=(q_ is (cond (!v==0 && !hR r) none d0) (2*r.length+2)).1 n r;exact jk λ v m=>(((show cV is _ _ n r=_ from h)▸z) v m).nr
def jB(is):nr (aW is)=true:=jk λ v m=>(i0.mp m).elim λ i z=>z.2▸rfl
def iL(d0):nr (hg d0)=true/\(hg d0).r? =none:=by
 cases d0 with
 | none=>exact ⟨rfl,rfl⟩
 | some d=>
  cases d with
  | cU=>exact ⟨rfl,rfl⟩
  | keys is=>exact {jB is,rfl}
variable{t0:Tk}
def I8(f:v<3)(ok:gG is d0)(c:B[p]? =some (gz ((t0::T).map tv) 1))(w:Wf T)(j:br T<=31)(g:1+T.length<=100000):
 C (d+51) 938 [.fn 966,.tup [.ref p,.str (dk v),.bool true,aW is,hg d0]] B (.ok (t9 .tup (c_ v is d0 1 T)) (B.set p (gz ((t0::T).map tv) (oP (c_ v is d0 1 T))))):=by
 have b:=Ie {(t0::T).map tv,none,[]} v f is d0 ok 1 w j g (d:=d);have h:((t0::T).map tv).drop 1=T.map tv/\((t0::T).map tv).length<=100000:={rfl,by rw [cJ,dx,Nat.add_comm];exact g}
 have i:=by
  show (tR 1 (aW is) && (tR 1 (hg d0) && true))=true;rw [lF rfl (jB is),lF (iL d0).2 (iL d0).1];rfl
 have a: [.ref 0,.str (dk v),.bool true,aW is,hg d0].map (cb λ ζ=>p)= [.ref p,.str (dk v),.bool true,aW is,hg d0]:=by
  show [V.ref p,.str _,.bool _,aW is,cb _ _]=_;rw [kK (iL d0).2]
 cases e:c_ v is d0 1 T with
 | bad y m r=>
  rw [e] at b;exact qU (EO (a▸nM c h i b rfl (.inr ⟨_,_,_,_,rfl,rfl⟩)))
 | ok l m r=>
  rw [e] at b;exact yf (Q6 (a▸nM c h i b rfl (.inl {_,_,rfl,rfl,BX e,rfl})) (Gu (di.mp c).1))
def G8(f:v<3)(ok:gG is d0)(c:mm B pr pt pk ((t0::T).map tv) 1 (some (iA "s",ip is d0)))(w:Wf T)(g:br T<=31)(h:1+T.length<=100000):
 C (d+55) 938 [.fn 959,.tup [.ref pr,.str (dk v)]] B (.ok (t9 .tup (c_ v is d0 1 T)) (wJ B pr pt pk ((t0::T).map tv) (oP (c_ v is d0 1 T)) (some (iA "s",ip is d0)))):=by
 have a:=Hw {(t0::T).map tv,some _,[]} v f is d0 ok rfl 1 w g h (d:=d)
 have b:vU (some (iA "s",ip is d0)):={rfl,by
  show (nr (aW is) && (nr _ && true))=true
  rw [jB,(iL d0).1];rfl}
 cases e:c_ v is d0 1 T with
 | bad y m r=>
  rw [e] at a;exact qU (EN (nJ c {rfl,by grind} b b rfl a (.inr ⟨_,_,_,_,rfl,rfl⟩)))
 | ok l m r=>
  rw [e] at a;exact yf (Q4 (nJ c {rfl,by grind} b b rfl a (.inl {_,_,rfl,rfl,BX e,rfl})) (E9 c.to))
noncomputable def La(t0:Tk):V:=.tup [.str "bad",.str "No such file or directory",.int t0.row,.int t0.col]
def Cw(a:v<3)(b:B[p]? =some (gz ((t0::T).map tv) 1))(c:1+T.length<=100000):
 C (d+5) 938 [.fn 966,.tup [.ref p,.str (dk v),.bool false,aW is,hg d0]] B (.ok (La t0) (B.set p (gz ((t0::T).map tv) 0))):=qU (EO ((by
 show [V.ref p,.str _,.bool _,aW is,cb _ _]=_
 rw [kK (iL d0).2]: [.ref 0,.str _,.bool _,aW is,hg d0].map (cb λ ζ=>p)= [.ref p,.str _,.bool _,aW is,hg d0])▸nM b {rfl,by grind} (by
 refine (?_:(tR 1 _ && (tR 1 _ && true))=true)
 rw [lF rfl (jB is),lF (iL d0).2 (iL d0).1];rfl) (AV v a _ _ t0 T) rfl (.inr ⟨_,_,_,_,rfl,rfl⟩)))
def z6{a}(b:v<3)(k1:a.r? =none/\nr a=true)(c:mm B pr pt pk ((t0::T).map tv) 1 (some (iA "r",a)))(e:1+T.length<=100000):
 C (d+5) 938 [.fn 959,.tup [.ref pr,.str (dk v)]] B (.ok (La t0) (wJ B pr pt pk ((t0::T).map tv) 0 (some (iA "r",a)))):=qU (EN (nJ (kn':=some (iA "r",a)) c {rfl,by grind} k1 k1 rfl (Af () v b a t0 T) (.inr ⟨_,_,_,_,rfl,rfl⟩)))
end
end
def Dn(C:Cm)(d:List O)(t:St->bX):Prop:=∀c a,c.length<=100->∃b,Sem C (t (PS c a d)) (.ok (.bool true) b)
section
variable{C:Cm}{xs xs':List O}{n:Nat}{ρ ρ':En}{kn kb:Kn}{ys:List Y}{Q Q1 Q2 Q3:V->Prop}
def Dn.bind{g}{t}{f:g->St->bX}{Q}(h:Dw C xs t Q)(k:∀v,Q v->Dn C xs (f v)):Dn C xs (λ σ=>bT (t σ) f):=λ e d l=>
 (h e _ l).elim λ v z=>z.elim λ b z=>z.elim λ a z=>(k v z.2.1 b _ z.1).elim λ c s=>{c,aC z.2.2 s}
variable{t:Tg}{x:X}
def lW(h:Dw C xs (λ σ=>ev x ρ σ) Q)(k:∀v,Q v->∃ρ',dR t v ρ=some ρ'/\Dn C xs (λ σ=>ao n ys ρ' σ kn kb)):Dn C xs (λ σ=>ao n (.asg t x::ys) ρ σ kn kb):=
 .bind h λ v q c b l=>(k v q).elim λ ζ z=>(z.2 c _ l).elim λ a s=>{a,aX z.1 s}
def jC{v}(h:∀b a,Sem C (ev x ρ (PS b a xs)) (.ok v (PS b a xs')))(e:dR t v ρ=some ρ')(k:Dn C xs' (λ σ=>ao n ys ρ' σ kn kb)):Dn C xs (λ σ=>ao n (.asg t x::ys) ρ σ kn kb):=λ b a l=>
 (k b _ l).elim λ c s=>{c,aC (h b _) (aX e s)}
def w_{c}{a}(h:∀d b,Sem C (ev c ρ (PS d b xs)) (.ok (.bool false) (PS d b xs')))(k:Dn C xs' (λ σ=>ao n ys ρ σ kn kb)):Dn C xs (λ σ=>ao n (.ifs c a []::ys) ρ σ kn kb):=λ d b l=>
 (k d _ l).elim λ e s=>{e,aC (h d _) s}
def Ll{t c}(e:∀b a,t (PS b a xs)=c (PS b a xs'))(k:Dn C xs' c):Dn C xs t:=λ b a l=>by rw [e];exact k b _ l
def Pc{y z}(p:Dw C xs (λ σ=>ev x ρ σ) Q1)(r:Dw C xs (λ σ=>ev y ρ σ) Q2)(s:Dw C xs (λ σ=>ev z ρ σ) Q3):Dw C xs (λ σ=>ev (.prim .tup [x,y,z]) ρ σ) λ v=>∃a b c,v= .tup [a,b,c]/\Q1 a/\Q2 b/\Q3 c:=
 λ u m l=>(p u _ l).elim λ a q=>q.elim λ i q=>q.elim λ g q=>q.elim λ l o=>(r i _ l).elim λ b q=>q.elim λ j q=>q.elim λ h q=>q.elim λ l f=>(s j _ l).elim λ c q=>q.elim λ k q=>q.elim λ d e=>{_,k,d,e.1,⟨a,b,c,rfl,o.1,f.1,e.2.1⟩,ah (cn o.2 (cn f.2 (cn e.2.2 .rr))) rfl}
def s_call{f}{a}{vs}{σ σ'}{q}(h:Sem C (cw a ρ σ) (.ok vs σ'))(c:C f vs σ' q):Sem C (ev (.call f a) ρ σ) q:=aC h (.cl c .rr)
end
def NS{s:Str}{ks:List Nat}(h:ec s.cps.toList=ks.map wd):ks.length<=s.length+1:=by
 have a:=congrArg List.length h;rw [cJ] at a;exact a▸ag (Bv _ _) (wz _ _)
def Nz(m n L:Nat)(v:V):Prop:=∃s,v= .str s/\Tw false false s n L/\m<=(ec s.cps.toList).length
def CC.to{n L}{v}(h:CC n L v):Nz 1 n L v:=h.elim λ s z=>{s,z.1,z.2.1,List.length_pos_iff.mpr z.2.2}
structure EK(m n L:Nat)(ks:List Nat):Prop where
 k:∀k∈ks,1<=k/\k<70
 br:ks.count 1<=n
 lo:m<=ks.length
 hi:ks.length<=L
section
def B0{d}{o}{ρ}{y z}{m n L way place w:Nat}(G:Dw (C (d+2)) o (λ σ=>ev y ρ σ) (Nz (m+1) n L))(u:L<=40000)(E:∀j a,Sem (C (d+2)) (cw [.loc 3,z,.loc 5] ρ (PS j a o)) (.ok [.int way,.int place,.int w] (PS j a o)))(F:way<4)(g:w<25):
 Dw (C (d+2)) o (λ σ=>ev (.call 714 [.call 707 [.call 638 [y],.loc 3,z,.loc 5]]) ρ σ) λ v=>∃ks,v= .lst ((iW 0 1 ks).map tv)/\EK m (n+1) (L+2) ks:=by
 intro j a l;obtain ⟨_,p,c,H,⟨s,rfl,t,h⟩,r⟩:=G j _ l;refine t.ks.elim λ ks q=>q.elim λ e f=> ?_;have B:=NS e;have b:=t.len;simp [e] at h;have A:ks.length<=40001:=ag B (ez (ag b u));have i:=Nat.mod_lt place (FR h);have lo:=MR (way:=way) (w:=ht.getD w 0) i;have x:=MS (way:=way) (w:=ht.getD w 0) i;have D:=Ca (way:=way) (w:=ht.getD w 0) i;refine {_,p,c,H,{chg ks way (place%ks.length) (ht.getD w 0),rfl,λ k I=> ?_,ag D (ez f.2),ag (Nat.le_sub_one_of_lt h) lo,ag x (ez (ag B (ez b)))},?_}
 ·rcases IS i I with q | q
  ·exact f.1 k q
  ·have z:=nq.mp (gy.mp B_ _ (by
    rw [LZ,cQ (xR▸g)];exact List.getElem_mem _:ht.getD w 0∈ht))
   exact q.symm▸{eN z.1,sF (eN z.2)}
 ·exact s_call (cn (s_call (cn (s_call (cn r .rr) (hC.mono (dg 1 _) (Gp e f.1 (ag b (ag u ⋯))))) (E _ _)) (Cj (ag A ⋯) (FR h) F g)) .rr) (hC.mono (dg 1 _) (Es (ag x (ag (ez A) ⋯))))
end
section
variable{d:Nat}{L:List V}{a b:O}
def Cg:C (d+5) 973 [.lst L] [a,b] (.ok (.ref 3) [a,b,eU,wI L 0 2 4,.known none]):=
 hC.mono (dg 5 d) (Cl.deep (k:=0) (n:=0) (λ ζ ζ ζ ζ ζ h=>aQ h) 5 _ _ _ _ ⋯)
def Cf{c e g h}:C (d+5) 973 [.lst L] [a,b,c,e,g,h] (.ok (.ref 7) [a,b,c,e,g,h,eU,wI L 0 6 8,.known none]):=
 hC.mono (dg 5 d) (Cl.deep (k:=0) (n:=0) (λ ζ ζ ζ ζ ζ h=>aQ h) 5 _ _ _ _ ⋯)
end
def BC{is:List Nat}(h:is.length=1∨is.length=2):(∃i,is= [i])∨∃i j,is= [i,j]:=by
 match is,h with
 | [i],_=>exact .inl ⟨i,rfl⟩
 | [i,j],_=>exact .inr ⟨i,j,rfl⟩
 | [],h=>exact absurd h ⋯
 | _::_::_::_,h=>exact absurd h nofun
def j2(a num:V)(way place w:Nat)(st:Bool)(v:Nat)(is:List Nat)(d0:Option Dt)(o:En):En:=
 some a::some num::some (.ref 1)::some (.int way)::some (.int place)::some (.int w)::some (.bool st)::some (.str (dk v))::some (.bool d0.isSome)::some (.lst (is.map kL))::some (dD d0)::some (.str (bk d0.isSome))::o
section
variable{C:Cm}{row num:V}{way place w v:Nat}{st:Bool}{is:List Nat}{d0:Option Dt}{o12 o13 o14 o15 o16 o17 o18 o19 o20:Option V}{xs:List O}{σ:St}
def Dk(h:is.length=1∨is.length=2):Sem C (ev (.prim (.ek .tuple) [.comp (.prim .item [.loc 19,.lit (.int 0)]) (.loc 19) (.val (.loc 9)) []]) (j2 row num way place w st v is d0 [o12,o13,o14,o15,o16,o17,o18,o19,o20]) σ) (.ok (aW is) σ):=by
 rcases BC h with ⟨i,e⟩ | ⟨i,j,e⟩
 ·subst e;exact .rr
 ·subst e;exact .rr
def Dl(h:ly d0):Sem C (ev (.cM (.ba false [.prim .iE [.loc 10],.prim (.cmp .Eq) [.loc 10,.lit (.str "verdict")]]) (.loc 10) (.prim (.ek .tuple) [.comp (.prim .item [.loc 20,.lit (.int 0)]) (.loc 20) (.val (.loc 10)) []])) (j2 row num way place w st v is d0 [o12,o13,o14,o15,o16,o17,o18,o19,o20]) σ) (.ok (hg d0) σ):=by
 cases d0 with
 | none=>exact .rr
 | some d=>
  cases d with
  | cU=>exact .rr
  | keys a=>
   rcases BC h.1 with ⟨i,e⟩ | ⟨i,j,e⟩
   ·subst e;exact .rr
   ·subst e;exact .rr
end
def eq_self{σ}{x}(h:Dq 20 (.tup x)):prim (.cmp .Eq) σ [.tup x,.tup x]=some (.bool true):=by
 show hF (la 20 _ _)=_;rw [h.eq 20 (bV _)];rfl
def ne_self{σ}{x}(h:Dq 20 (.tup x)):prim (.cmp .NotEq) σ [.tup x,.tup x]=some (.bool false):=by
 show hF (oe (rk _) none)=_;refine h.eq 20 (bV _)▸?_;rfl
def EY{b}{f}{s:Rs b}{n}(h:s.sat λ a=>Dq (n+1) (f a)):∃x,t9 f s= .tup x/\Dq (n+3) (.tup x):=by
 cases s with
 | ok a m r=>exact {_,rfl,.tup (jt (.str _) (.tup (jt h (.int _))))}
 | bad w m r=>exact {_,rfl,.tup (kX (.str _) (.str _) (.int _) (.int _))}
def K_(t):∃x,La t= .tup x/\Dq 20 (.tup x):={_,rfl,.tup (kX (.str _) (.str _) (.int _) (.int _))}
def JX{b}{n}{r}:∃x,t9 (tQ b) (bR b n r)= .tup x/\Dq 20 (.tup x):=(EY (by
 have z:=lQ b n r
 revert z
 cases bR b n r with
 | ok c m r=>exact λ z=>(xP z).mono 17 (by simp)
 | bad=>exact λ ζ=>trivial)).elim λ x a=>{x,a.1,a.2.mono 20 (by simp)}
def Ny{v n}{is}{d0}{r}:∃x,t9 V.tup (c_ v is d0 n r)= .tup x/\Dq 20 (.tup x):=by
 refine (EY (by
  have z:=(q_ is (cond (!v==0 && !hR r) none d0) (2*r.length+2)).1 n r
  revert z
  refine (?_:(c_ v is d0 n r).sat _->_);cases c_ v is d0 n r with
  | ok l m r=>exact λ z=>(Dq.tup z).mono 17 ⋯
  | bad=>exact λ ζ=>trivial:(c_ v is d0 n r).sat _)).elim λ x a=> ?_
 exact {x,a.1,a.2.mono 20 ⋯}
def Ay{is}{d0}(h:gm is)(a:ly d0):gG is d0:={h.2,h.1.elim (λ e=>ag (b1 e) ⋯) λ e=>ag (b1 e) ⋯,λ b e=>by
 subst e
 exact {a.2,a.1.elim (λ e=>ag (b1 e) ⋯) λ e=>ag (b1 e) ⋯}}
def Mv{C}{i}{ρ}{y}(h:Dw C i (λ σ=>ev y ρ σ) (TV false false 4 520)):Dw C i (λ σ=>ev (.prim (.bin .Add) [.prim (.bin .Add) [.lit (.str "s "),y],.lit (.str " ;")]) ρ σ) (Nz 2 4 530):=
 jd (Q1:=λ v=>∃s,v= .str (ap _ s)/\Tw _ _ s 4 520) (jd iM h λ a b c d=>by
  obtain ⟨s,e,p⟩:=d;subst e c
  exact {_,λ σ=>add_str (ag (kcj (show "s ".length<=2 by decide) p.len) ⋯),s,rfl,p}) iM λ a b c d=>by
  obtain ⟨s,e,p⟩:=c;subst e d;have f:Tw false true "s " 0 2:=i5 rfl;have g:Tw true false " ;" 0 2:=i5 rfl;refine {_,λ σ=>add_str (ag (kcj (f.vP p).len g.len) ⋯),_,rfl,((f.vP p).EH g).mono ⋯ ⋯,?_};show 2<=(ec ([115]++32::s.cps.toList++32:: [59])).length;simp only [jj,hH];have a:(ec [115]).length=1:=rfl;exact ez (ag (b1 a.symm) (ed ..))
def wH(k:Nat)(ρ:En)(σ:St):bX:=ao 0 (o8.body.drop k) ρ σ aM aP
def ui(L:List V)(n m:Nat)(a:Option (List Str×V)):List O:= [eU,wI L n 2 4,.known a,gz L m]
def Ra(st:Bool):Str:=cond st "r" "s"
def pW(L:List V)(c b:Nat)(a:Option (List Str×V))(d:List V)(st:Bool)(is:List Nat)(d0:Option Dt)(B:List O):St:=ui L c b a++(eU::wI d 1 6 9:: .known none:: .known (some (iA (Ra st),ip is d0))::B)
section
variable{row num due1:V}{way place w v n1 m1:Nat}{st:Bool}{is:List Nat}{d0:Option Dt}{L:List V}{kn1:Option (List Str×V)}{d:Nat}
def G4{e}{T}{s}{t}(o:v<3)(hi:gm is)(y:ly d0)(A:Wf T)(u:br T<=31)(j:1+T.length<=100000):
 Dn (C (d+57)) (ui L n1 m1 kn1) (wH 15 (j2 row num way place w st v is d0 [some (.lst ((e::T).map tv)),some (.ref 3),some due1,some (aW is),some (hg d0),some (dD s),some (.str t),none,none])):=by
 refine jC (λ c b=> .call rfl (hC.mono (dg _ _) Cf) .rr) rfl ((λ {k}=>by
  cases st with
  | true=>exact Ll λ ζ ζ=>by kernel_rfl k
  | false=>exact Ll λ ζ ζ=>by kernel_rfl k:∀{k:Dn (C (d+57)) (pW L n1 m1 kn1 ((e::T).map tv) st is d0 []) (wH 17 (j2 row num way place w st v is d0 [some (.lst ((e::T).map tv)),some (.ref 7),some due1,some (aW is),some (hg d0),some (dD s),some (.str t),none,none]))},Dn _ _ _) (k:= ?_))
 have z:∀c b B,mm (PS c b (pW L n1 m1 kn1 ((e::T).map tv) st is d0 [B])) 7 6 9 _ 1 _:=λ c b B=>{rfl,rfl,rfl,⋯,⋯,⋯}
 have i:∀{x} {m},Dq 20 (.tup x)->(∀c b,C _ 938 [.fn 966,.tup [.ref 10,.str (dk v),.bool !st,aW is,hg d0]] (PS c b (pW L n1 m1 kn1 ((e::T).map tv) st is d0 [gz ((e::T).map tv) 1])) (.ok (.tup x) (PS c b (pW L n1 m1 kn1 ((e::T).map tv) st is d0 [gz ((e::T).map tv) m]))))->
  (∀c b,∃h,C (d+56) 938 [.fn 959,.tup [.ref 7,.str (dk v)]] (PS c b (pW L n1 m1 kn1 ((e::T).map tv) st is d0 [gz ((e::T).map tv) m])) (.ok (.tup x) h))->
  Dn (C (d+57)) (pW L n1 m1 kn1 ((e::T).map tv) st is d0 []) (wH 17 (j2 row num way place w st v is d0 [some (.lst ((e::T).map tv)),some (.ref 7),some due1,some (aW is),some (hg d0),some (dD s),some (.str t),none,none])):=λ {x m} q D E=>by
  refine jC (v:=.tup x) (xs':=pW L n1 m1 kn1 ((e::T).map tv) st is d0 [gz ((e::T).map tv) m]) (λ c b=> ?_) rfl ?_
  ·have a:=hC.mono (ed (d+56) 1) (D c b);cases st with
   | true=>exact .call rfl a .rr
   | false=>exact .call rfl a .rr
  ·exact λ c b l=>(E c _).elim λ h a=>{h,fG (ah (cn (.call rfl (hC.mono (ed _ 1) a) .rr) .rr) (eq_self q))}
 cases st with
 | false=>
  refine Ny (v:=v) (n:=1) (is:=is) (d0:=d0) (r:=T).elim λ x g=>i (m:=oP (c_ v is d0 1 T)) g.2 (λ c b=> ?_) λ c b=> ?_
  ·have a:=I8 (d:=d+5) (p:=10) (B:=PS c b (pW L n1 m1 kn1 ((e::T).map tv) false is d0 [gz ((e::T).map tv) 1])) o (Ay hi y) rfl A u j;exact g.1▸a
  ·exact {_,g.1▸G8 o (Ay hi y) (z c _ _) A u j}
 | true=>
  refine (K_ e).elim λ x f=>i (m:=0) f.2 (λ c b=> ?_) λ c b=> ?_
  ·exact hC.mono (by lia) (f.1▸(Cw (d:=0) (d0:=d0) (B:=PS c _ (pW L n1 m1 kn1 ((e::T).map tv) true is d0 [gz ((e::T).map tv) 1])) o rfl j))
  ·exact {_,hC.mono (by lia) (f.1▸(z6 (d:=0) o ({rfl,by
  show (nr (aW is) && (nr _ && true))=true
  rw [jB,(iL d0).1];rfl}) (z c _ (gz ((e::T).map tv) 0)) j))}
end
def Kw{m n L}{ks}(h:EK m n L ks)(b:n<=31)(a:L<=50000):Wf (iW 0 1 ks)/\br (iW 0 1 ks)<=31/\(iW 0 1 ks).length<=100000:=
 {z_ ks 0 1 h.k,by rw [Aa];exact ag h.br b,by have:=h.hi;rw [wL];exact ag (ez (ag this a)) ⋯}
def Kv{m n L}{ks}(h:EK (m+1) n L ks)(d:n<=31)(c:L<=50000):∃e T,iW 0 1 ks=e::T/\Wf T/\br T<=31/\1+T.length<=100000:=by
 cases ks with
 | nil=>exact absurd h.lo (Std.LawfulOrderOrd.isLE_compare_eq_false.mp rfl)
 | cons k ks=>
  refine {_,_,rfl,z_ ks _ _ λ x m=>h.k x (.tail _ m),?_,?_}
  ·rw [Aa];exact ag (ag List.count_le_count_cons h.br) d
  ·have a:=h.hi;simp [dx] at a;rw [wL];exact ag (ee (ag a c) 1) ⋯
section
variable{row num due1:V}{way place w v n1 m1:Nat}{st:Bool}{is:List Nat}{d0:Option Dt}{L:List V}{kn1:Option (List Str×V)}{d:Nat}
def MD{n}{c e f h i j k l m}(q:v<3)(p:ly d0):Dw (C (d+1)) n (λ σ=>ev (.cM (.ba true [.prim (.cmp .NotEq) [.loc 7,.lit (.str "add")],.prim (.cmp .Eq) [.call 624 [.loc 2,.lit (.int 2)],.lit (.int 0)]]) (.lit .none) (.loc 10)) (j2 row num way place w st v is d0 [c,e,f,h,i,j,k,l,m]) σ) λ u=>∃o,u=dD o/\ly o:=by
 have a:∀v,Dw (C (d+1)) n (λ σ=>ev (.prim (.cmp .Eq) [.call 624 [.loc 2,.lit (.int 2)],.lit _]) (j2 row num way place w st v is d0 [c,e,f,h,i,j,k,l,m]) σ) λ u=>∃b,u= .bool b:=λ v=>
  jd (Q2:=λ v=>v= .int 0) (hj 2 ⋯ λ ζ ζ=>rfl) iM (by
   rintro _ _ ⟨g,_,rfl⟩ rfl
   exact {.bool _,λ σ=>rfl,_,rfl})
 refine Dw.bind (Q:=λ u=>∃b,u= .bool b) (Fw (P:=λ v=>Dw _ n (λ σ=>ev _ (j2 _ _ _ _ _ _ v _ _ _) σ) λ u=>∃b,u= .bool b) q (.rt (.bool false) (λ ζ ζ=>⋯) ⟨_,rfl⟩) (.cv (λ ζ ζ=>⋯) (a 1)) (.cv (λ ζ ζ=>⋯) (a 2))) ?_
 rintro _ ⟨b,rfl⟩
 cases b with
 | true=>exact .rt _ λ ζ ζ=>by kernel_rfl ⟨none,rfl,trivial⟩
 | false=>exact .rt _ λ ζ ζ=>by kernel_rfl ⟨d0,rfl,p⟩
def G3{g}(h:v<3)(hi:gm is)(c:ly d0)(j:way<4)(f:w<25):
 Dn (C (d+57)) (ui L n1 m1 kn1) (wH 10 (j2 row num way place w st v is d0 [g,some (.ref 3),some due1,none,none,none,none,none,none])):=by
 refine jC (λ i b=>Dk hi.1) rfl (jC (λ i b=>Dl c) rfl (lW (MD h c) ?_))
 rintro _ ⟨m,rfl,e⟩
 refine {j2 row num way _ w st v is d0 _,rfl,lW (Mv (bI _ λ ζ ζ=>by kernel_rfl (Cl.up (xK hi e) (dg _ _)))) ?_}
 rintro _ ⟨l,rfl,t⟩
 refine {j2 row num way _ w st v is d0 _,rfl,lW (B0 (place:=1+place%7) (.rt _ λ ζ ζ=>by kernel_rfl ⟨l,rfl,t⟩) (by simp) (λ i b=> ?_) j f) ?_}
 ·refine ai .rr (ai (ah (ai .rr (ai (ah .rr (Fu (Nat.zero_lt_succ 6))) .rr)) ?_) .rr);rfl
 rintro _ ⟨n,rfl,k⟩
 exact {j2 row num way _ w st v is d0 _,rfl,(Kv k (by simp) (by simp)).elim λ o q=>q.elim λ T a=>a.1▸G4 h hi c a.2.1 a.2.2.1 a.2.2.2}
end
set_option tactic.hygienic true in
def IQ(b)(es):fM b es= [ia (bk b) (dm es)]∨∃e,fM b es= [ia (bk b) (dm es),e]:=by
 unfold fM;generalize look es _ _=v
 cases v<;>first
  | exact .inl rfl
  | (rename_i l
     cases l with
     | nil=>exact .inl rfl
     | cons a l=>exact .inr ⟨_,rfl⟩)
def E8(c num:V)(d e f g h i j k a b:Option V):En:= [some c,some num,d,e,f,g,h,i,j,k,a,b,none,none,none,none,none,none,none,none,none]
section
variable{ρ:En}{σ:St}
def J6{C}{x}{l}(h:Sem C (ev x ρ σ) (.ok (.lst l) σ))(q:l.length<=1000000):Sem C (ev (.ro x) ρ σ) (.ok (.ref σ.length) (σ++ [.list l])):=aC h (aX rfl (gj q .rr))
def J7{C}{σ'}{ks}{a}{vs}(h:Sem C (cw a ρ σ) (.ok vs σ'))(q:ks.length=vs.length/\ks.Nodup):Sem C (ev (.kv ks a) ρ σ) (.ok (.ref σ'.length) (σ'++ [.dict ks vs])):=aC h (gj q .rr)
variable{d:Nat}
def G5{l num}{way place w v}{st}{is}{d0}{ks}(t:v<3)(hi:gm is)(s:ly d0)(u:way<4)(k:w<25)(n:Wf (iW 0 1 ks))(i:br (iW 0 1 ks)<=31)(j:(iW 0 1 ks).length<=100000):
 Dn (C (d+57)) [] (wH 6 (j2 l num way place w st v is d0 [some (.lst ((iW 0 1 ks).map tv)),none,none,none,none,none,none,none,none])):=by
 generalize iW 0 1 ks=T at n i j;refine jC (λ g b=> .call rfl (hC.mono (dg _ _) Cg) .rr) rfl ?_;obtain ⟨x,e,q⟩:=JX;refine jC (λ g b=> .call rfl (e▸Pt (p:=5) (B:=PS g _ (ui _ 0 0 _)) _ rfl n i j) .rr) rfl (w_ (xs':=ui (T.map tv) (oP (bR d0.isSome 0 T)) (oP (bR d0.isSome 0 T)) (LS (bR d0.isSome 0 T))) (λ g b=> ?_) ?_)
 ·have a:=N7 (d:=d) (pr:=3) (B:=PS g b (ui _ 0 (oP (bR d0.isSome 0 T)) _)) d0.isSome {rfl,rfl,rfl,⋯,⋯,⋯} n i j;simp [e] at a;exact ah (cn (.call rfl a .rr) .rr) (ne_self q)
 refine w_ (xs':=ui (T.map tv) (oP (bR d0.isSome 0 T)) (oP (bR d0.isSome 0 T)) (LS (bR d0.isSome 0 T))) (λ g b=> ?_) (G3 t hi s u k)
 have o:∀f m r,bR _ 0 T= .ok f m r->la 20 _ _=some _:=λ f m r e=>by
  have z:=lQ d0.isSome 0 T;exact (qX (e▸z)).eq 20 (by simp)
 generalize A:bR _ 0 T=S at e o;cases S with
 | bad y m r=>
  cases e;exact .rr
 | ok f m r=>
  cases e
  refine ah ?_ ((λ σ h=>by
   refine (?_:hF (ae σ[4]? _)=_);rw [h];show hF (gd _ _)=_
   rw [gd,if_pos {rfl,o f m r rfl}];rfl:∀σ,σ[4]? =some _->prim _ σ [.ref 4,.j6 (iA "s") _]=some _) _ rfl)
  unfold tQ
  rcases IQ _ f with h | ⟨c,h⟩
  ·exact h▸.rr
  ·exact h▸.rr
def IZ{a:List Int}{num}(x:a.length<=100):∃σ',C (d+58) 978 [.lst (a.map .int),.int num] [] (.ok (.bool true) σ'):=by
 obtain ⟨σ',s⟩:=(by
  refine lW (Pc (Cl.up (hj (d:=0) 4 ⋯ λ ζ ζ=>rfl) (by lia)) (Cl.up (hj (d:=0) 50 ⋯ λ ζ ζ=>rfl) (by lia)) (Cl.up (hj (d:=0) 25 ⋯ λ ζ ζ=>rfl) (by lia))) ?_
  rintro _ ⟨_,_,_,rfl,⟨p,t,rfl⟩,⟨j,_,rfl⟩,⟨w,f,rfl⟩⟩
  refine {E8 (.lst (a.map .int)) (.int num) _ _ _ _ none none none none none none,rfl,lW (Q:=λ u=>∃st v,v<3/\u= .tup [.bool st,.str (dk v)]) ?_ ?_}
  ·intro m b l;obtain ⟨_,n,k,l,⟨g,_,rfl⟩,A⟩:=Cl.up (hj 4 ⋯ λ ζ ζ=>⋯) (dg 1 _) m _ l;obtain ⟨_,o,c,l,⟨v,i,rfl⟩,B⟩:=Cl.up (hj 3 ⋯ λ ζ ζ=>⋯) (dg 1 _) n _ l;refine {_,o,c,l,{(g:Int)==1,v,i,rfl},ah (cn (ah (cn A .rr) rfl) (cn (ah (cn .rr (cn B .rr)) (dj ⋯ ?_)) .rr)) rfl};exact Fw (P:=λ v=>(_:List V)[v]? =some (V.str (dk v))) i rfl rfl rfl
  rintro _ ⟨st,v,i,rfl⟩
  refine {E8 _ _ _ _ _ _ _ _ _ _ none _,rfl,lW (bI _ λ ζ ζ=>by kernel_rfl (Cl.up Iz (dg _ _))) ?_}
  rintro _ ⟨y,h,rfl,r,q⟩
  refine {E8 _ _ _ _ _ _ _ _ _ _ _ _,rfl,jC (v:=.str (bk h.isSome)) (xs':= []) (λ m b=> ?_) rfl ?_}
  ·cases h with
   | none=>exact .rr
   | some h=>exact .rr
  refine lW (B0 ((bI _ λ ζ ζ=>by kernel_rfl (Cl.up (IF r q) (dg _ _))).mono λ ζ z=>z.to) (by simp) (λ m b=> .rr) t f) ?_
  rintro _ ⟨D,rfl,ok⟩
  have e:=Kw ok (by simp) (by simp)
  exact {j2 _ _ p _ w st v y h _,rfl,G5 i r q t f e.1 e.2.1 e.2.2}:Dn (C (d+57)) [] (wH 1 (E8 _ _ (some _) _ _ _ _ _ _ _ _ _))) a num x
 refine {σ',Cl.b6 0 _ _ rfl rfl (aV ?_ rfl s)};exact J7 (σ':= [.list _]) (cn (J6 .rr (by grind)) .rr) {rfl,⋯}
end
section
def E6:List (List Int):= [[0,0,0,0,0,0,0,0,3,0,1,1,0,0,5,2,2,3,1,1,0,3,2,1,0,2,0],[0,0,0,0,1,0,1,2,3,2,0,0,2,0,1,0,1,2,1,0,2],[0,0,0,0,2,1,0,1,0,3,0,0,4,0,0,5,2,1,0,1,0,2,4,0,3,1,1,1,0,0,2,0],[0,0,0,1,0,0,0,0,2,3,0,0,1,1,1,1],[1,9,0,0,0,1,0,3,2,2,0,0,5,1,2,0,0,1,0,0,1,5],[3,4,7,0,0,0,0,0,2,0,0,5,1,0,0,0,0,1]]
def HU:List V:=E6.map λ r=> .lst (r.map .int)
variable{l:List V}
def Ik:(∀v∈l,∃i,v=V.int i)->∃is,intsOf l=some is:=by
 induction l with
 | nil=>exact λ ζ=>{[],rfl}
 | cons v l b=>
  intro h;obtain ⟨i,e⟩:=h v (.head _);obtain ⟨is,a⟩:=b λ v m=>h v (.tail _ m);subst e;refine ⟨i::is,(a▸?_:ae (intsOf l) _=_)⟩;rfl
variable{σ:St}
def JD(h:∀v∈l,∃i,v=V.int i):∃n,prim (.ek .sum) σ [.lst l]=some (.int n):=by
 refine (Ik h).elim λ a e=>{a.sum,(e▸?_:ae _ _=_)};rfl
def IH{b}{lo hi st}{l}{v:b}(m:v∈dU lo hi st l):v∈l:=(xu.mp m).elim λ i a=>Bs a.2
def NV{i}:prim .mL σ [.lst l,.int i,.int 6]=gd ((0<=i/\idx i=true/\(0:Int)<6/\idx 6=true)/\l.length<=1000000) (some (V.lst (dU (some i) none (some 6) l))):=rfl
def Rf{k:Nat}(a:k<100)(b:l.length<=1000000):prim .mL σ [.lst l,.int k,.int 6]=some (.lst (dU (some (k:Int)) none (some 6) l)):=by
 rw [NV,gd,if_pos {{xr k,ky (ag (iC a) ⋯),by simp,rfl},b}]
def JR(b:l.length<=63):prim .gK σ [.lst l,.int 63]=some (.lst l):=by
 rw [E2,gd,if_pos {rfl,ag b ⋯},mi (hi:=some 63) (a:=0) rfl (show clipAt _ ((63:Nat):Int)=l.length by rw [clipAt_nat];exact Nat.min_eq_right b) {m_ _,bV _},List.drop_zero,Nat.sub_zero,List.take_length];rfl
def Tp{d f:Nat}{r:List Int}{n}{σ'}(h:C d f [.lst (r.map .int),.int n] [] (.ok (.bool true) σ')):C d f [.lst (r.map .int),.int n] [] (.ok (.bool true) []):=
 hC.frame h rfl (λ ζ h=>absurd h (gV _)) (λ ζ ζ h=>absurd h (gV _)) {λ ζ h=>absurd h (gV _)} (by
  refine (?_:(nr (.lst _) && true)=true)
  rw [show nr (.lst _)=true from jk λ v m=>(i0.mp m).elim λ i z=>z.2▸rfl];rfl) (.ok (fi:=λ i=>i) _ σ' [] rfl {rfl,λ ζ h=>absurd h (gV _),λ ζ ζ=>rfl})
section
def Ly:List Y:= [.asg (.loc 3) (.prim (.ek .sum) [.prim .mL [.loc 0,.loc 1,.lit (.int 6)]]),.ifs (.prim (.cmp .NotEq) [.loc 1,.prim (.bin .Mod) [.prim (.bin .Sub) [.prim (.ek .len) [.loc 0],.lit (.int 1)],.lit (.int 6)]]) [.asg (.loc 3) (.prim (.bin .Mod) [.loc 3,.lit (.int 60000)])] [],.ifs (.prim .not [.call 978 [.loc 2,.loc 3]]) [.ret (.lit (.bool false))] []]
variable{d:Nat}{l:List Int}
def DW{r:List Int}{k:Nat}{g}{f j}{q}(u:l.length<=63)(s:r.length<=100)(o:k<100)(h:∀g,Sem (C (d+58)) (f [some (.lst (l.map .int)),some (.int k),some (.lst (r.map .int)),g] []) q):
 Sem (C (d+58)) (ao 0 Ly [some (.lst (l.map .int)),some (.int k),some (.lst (r.map .int)),g] [] f j) q:=by
 have p:(l.map V.int).length<=63:=by simp_all
 obtain ⟨n,e⟩:=JD λ v m=>(i0.mp (IH m)).elim λ i z=>⟨i,z.2.symm⟩;refine aV (ah (ai (ah .rr (Rf o (by lia))) .rr) e) rfl ?_;have a:∀n,Sem _ (ao 0 [.ifs (.prim .not [.call 978 [.loc 2,.loc 3]]) [.ret (.lit (.bool false))] []] [some _,some _,some _,some _] [] f j) q:=λ n=>(IZ (num:=n) s).elim λ t c=>d9 (ah (ai (.call rfl (Tp c) .rr) .rr) rfl) (h _)
 exact dn (ah (ai .rr (ai (ah (ai (ah (ai (ah .rr (fb (by unfold cY;lia))) .rr) rfl) .rr) rfl) .rr)) rfl) ((λ b=>by
  cases b with
  | false=>exact a n
  | true=>exact a _:∀b,Sem _ (cond b _ _) q) _)
def DX(i:l.length<=63){b}:(∀v∈b,∃k:Nat,∃r:List Int,k<100/\r.length<=100/\v= .tup [.int k,.lst (r.map .int)])->∀c f a,Sem (C (d+58)) (forL (.tup [.loc 1,.loc 2]) (λ ρ σ p o=>ao 0 Ly ρ σ p o) (λ ρ σ=>ao 0 [.ret (.lit (.bool true))] ρ σ aM aP) b [some (.lst (l.map .int)),c,f,a] []) (.ok (.bool true) []):=by
 induction b with
 | nil=>exact λ ζ c f a=> .rr
 | cons v b n=>
  intro h c f a;obtain ⟨k,r,g,j,e⟩:=h v (.head _);subst e;exact aX rfl (DW i j g λ a=>n (λ v m=>h v (.tail _ m)) _ _ _)
def Pk(b:l.length<=63):C (d+59) 985 [.lst (l.map .int)] [] (.ok (.bool true) []):=by
 refine Cl.b6 0 _ [some _,none,none,none] rfl rfl (aV (ah .rr (JR (by simp_all))) rfl (aC (zT (.call rfl (hC.mono (dg 1 _) (hC.go (r:=.ok (.lst HU) []) 0 .rr)) .rr:Sem _ (ev (.call 617 []) [some (.lst (l.map .int)),none,none,none] []) _) ⋯) (DX b ?_ _ _ _)));intro v m;obtain ⟨j,x,e,c⟩:=sk _ 0 v m;have f:j<6:=(di.mp e).1;exact (i0.mp (Bs e)).elim λ r a=>{j,r,by lia,eN (gy.mp (show (E6.all λ r=>Nat.ble _ 100)=true by kernel_rfl) r a.1),by simp_all}
end
end
end PM
end
section
open PySem PySem.W PyProof.Rows PySem.Calls PySem.SeqAt PySem.StrLaws
namespace PM.N
section
def i9(st:Stmt)(b:Expr->Expr->Pos->Bool):Bool:=Kk st λ a v p=>u1 a λ T=>b T v p
def gr{st:Stmt}{b:Expr->Expr->Pos->Bool}(C:Stmt->Prop)(h:i9 st b=true)(g:∀T v p,b T v p=true->C (.Assign [T] v p)):C st:=Kj C h λ a v p h=>c6 (λ a=>C (.Assign a v p)) h λ T h=>g T v p h
def p_(st:Stmt)(a:Expr->Pos->Bool):Bool:=Dh st λ e p=>uS e λ e=>a e p
def q7{st:Stmt}{a:Expr->Pos->Bool}(C:Stmt->Prop)(h:p_ st a=true)(g:∀e p,a e p=true->C (.Return (some e) p)):C st:=ur C h λ e p h=>e9 (λ e=>C (.Return e p)) h λ e h=>g e p h
def CJ(e:Expr)(b:Pos->Bool):Bool:=pT e λ a p=>a.isEmpty && b p
def zz{e:Expr}{b:Pos->Bool}(C:Expr->Prop)(h:CJ e b=true)(g:∀p,b p=true->C (.List [] p)):C e:=n9 C h λ a p h=>b4 (λ a=>C (.List a p)) (an h).1 (g p (an h).2)
def Eu(S:Cs)(i j:Nat)(b:Expr)(a c:Str)(x:X):Bool:=noStar b && (S.Γ.lookup a==some i && (ku S.κ a && (S.Γ.lookup c==some j && (cA S.κ true c && ck S x b))))
def Co{S:Cs}{i j:Nat}{b:Expr}{a c:Str}{x:X}{C:Prop}(h:Eu S i j b a c x=true)(k:noStar b=true->S.Γ.lookup a=some i->ku S.κ a=true->S.Γ.lookup c=some j->cA S.κ true c=true->ck S x b=true->C):C:=
 have d:=an (an (an (an h).2).2).2
 k (an h).1 (bq (an (an h).2).1) (an (an (an h).2).2).1 (bq d.1) (an d.2).1 (an d.2).2
def QL(S:Cs)(i:Nat)(a:List Str)(es:List Expr):Bool:=match es with
 | []=>false
 | e::r=>i4 e λ o ζ ζ=>dZ o λ y ζ=>kF S i y && gC y a (e::r)
def O5{S:Cs}{i:Nat}{a:List Str}{es:List Expr}(h:QL S i a es=true):∃y,kF S i y=true/\gC y a es=true:=by
 cases es with
 | nil=>exact c4 h
 | cons e r=>exact fy (λ ζ=>∃y,kF S i y=true/\gC y a _=true) h λ o ζ ζ h=>cz (λ ζ=>∃y,kF S i y=true/\gC y a _=true) h λ y ζ h=>{y,an h}
mutual
noncomputable def QS(S:Cs)(y:Y)(st:Stmt):Bool:=match y with
 | .expr x=>tC st λ e ζ=> !jL e && ck S x e
 | .asg t x=>i9 st λ T v ζ=>Gk S t x T v || (MM S t x T v || MN S t x T v)
 | .q0 x D v=>i9 st λ T d ζ=>i4 T (λ o n ζ=>D== [n] && (fa S.Kf n && (ck S v d && ck S x o))) ||
  fU T λ q C F=> !jL d && (gH S.κ [.Tuple q C F] d==some none && (decide (2<=D.length) && (Jk x (λ i=>QL S i D q) && (D.all (fa S.Kf) && ck S v d))))
 | .c8 x k v=>i9 st λ T d ζ=>qM T λ o i ζ=>ck S v d && (ck S x o && ck S k i)
 | .vO p i v=>yr st λ t r d ζ=>dZ t λ x ζ=>r==p && (cA S.κ true x && (kF S i x && ck S v d))
 | .rQ p x n v=>yr st λ t r d ζ=>i4 t λ o m ζ=>r==p && (m==n && (flat v && (bu S.Kf n && (fa S.Kf n && (ck S x o && ck S v d)))))
 | .eL p x k v=>yr st λ t r d ζ=>qM t λ o i ζ=>r==p && (flat v && (lV i && (ck S x o && (ck S k i && ck S v d))))
 | .ifs c a b=>P_ st λ t x y ζ=>ck S c t && (e4 S a x && e4 S b y)
 | .gp c b=>Kb st λ t l e ζ=>e.isEmpty && (ck S c t && e4 S b l)
 | .e3 t it b=>Kg st λ g u l e ζ=>e.isEmpty && (cq u && (ib S.Γ t g && ((c5 g).all (cA S.κ true) && (freeOf S.ow (bw t) && (pS S it u g && e4 S b l)))))
 | .brk=>Ki st λ ζ=>true
 | .ret x=>p_ st λ e ζ=>ck S x e
 | .cB x=>E3 st λ e c ζ=>c.isNone && uS e λ e=>ck S x e
 | .yd x i G=>Kd st λ b hs o f ζ=>o.isEmpty && (f.isEmpty && u1 b λ b=>p_ b λ e ζ=>u1 hs λ h=>Gq h λ U n l=>iT S.Kf S.κ U (.ref 64) && (hK n G l && (S.Γ.lookup n==some i &&
  (S.κ.lookup n==some .local && (S.ow !=some i && (bu S.Kf "why" && (bu S.Kf "row" && (bu S.Kf "column" && ck S x e))))))))
 | .hX i P=>i9 st λ T d ζ=>pT d λ q z=>isNm S.Γ i T && (mW S.κ T && (S.ow==some i && (q.all noStar && (gH S.κ [T] (.List q z)==some none && (decide (q.length<=1000/\P.length<=1000) && eA S P q)))))
 | .qc i=>i9 st λ T d ζ=>jT d λ ks H W=>ks.isEmpty && (H.isEmpty && (isNm S.Γ i T && (mW S.κ T && (S.ow==some i && gH S.κ [T] (.Dict [] [] W)==some none))))
 | .lU i j _ x=>i9 st λ T d ζ=>fU T λ q C F=>u2 q λ Z e2=>dZ Z λ A J=>dZ e2 λ B L=>fU d λ H M N=>u2 H λ a b=>S.ow==some i && (S.ow !=some j &&
  (CJ a (λ z=>gH S.κ [.Tuple [.Name A J,.Name B L] C F] (.Tuple [.List [] z,b] M N)==some (some [A,B]) && Eu S i j b A B x) ||
    CJ b λ z=>gH S.κ [.Tuple [.Name A J,.Name B L] C F] (.Tuple [a,.List [] z] M N)==some none && Eu S i j a B A x))
 | .oset i k v=>i9 st λ T d ζ=>qM T λ o kE ζ=>bo S.Γ i o && (S.ow==some i && (ck S v d && ck S k kE))
 | .dy i x=>tC st λ e ζ=>Et S i "append" e λ a=>ck S x a
 | .pz i x=>tC st λ e ζ=>Et S i "extend" e λ a=>ck S x a
 | .pC i x=>i9 st λ T d ζ=>yb d λ o r a Q=>r== .Add && (isNm S.Γ i T && (mW S.κ T && (bo S.Γ i o && (S.ow==some i && (gH S.κ [T] (.BinOp o .Add a Q)==some none && ck S x a)))))
 | .lT i=>p_ st λ o ζ=>bo S.Γ i o && S.ow==some i
 | .j3 i x=>p_ st λ e ζ=>yb e λ o r a ζ=>r== .Add && (bo S.Γ i o && (S.ow==some i && ck S x a))
noncomputable def e4(S:Cs)(I:List Y)(E:List Stmt):Bool:=match I with
 | []=>E.isEmpty
 | y::I=>match E with
  | s::E=>QS S y s && e4 S I E
  | []=>false
end
end
end PM.N
end
section
open PySem PySem.W PyProof.Rows PySem.Calls PySem.SeqAt PySem.StrLaws
namespace PM
def sP(Kf:Frag)(b:Fn)(c:List Str)(a:FuncData):Bool:=
 a.scope.kind== .function && (!a.scope.isCoroutine && (!a.scope.isGenerator && (a.closure.isEmpty && (a.globals==mainGlobals && (a.builtins==builtinsNs && (codeOk Kf a.code a.qualname && (a.params.posonlyargs.isEmpty && (a.params.args.map (·.arg)==c.take b.np && (a.params.kwonlyargs.isEmpty &&
 (a.params.vararg.isNone && (a.params.kwarg.isNone && (decide c.Nodup && (decide (b.np<=c.length) && (tO Kf a.defaults b.kc && (decide (b.kc.length<=b.np) && (c.take b.np).all (cA a.scope.names true))))))))))))))))
def RJ{k:ScopeKind}(h:(k== .function)=true):k= .function:=by lia
def vj{Kf}{f}{i}{j}{g}{b}{oc}{od}{sl}(l:Kf.lookup f=some {oc,od,.func g,sl})(k:g.body= .stmts b)(h:sP Kf i j g=true):n7 Kf f i j g b:=
 have d:=an (an (an (an h).2).2).2;have e:=an (an (an (an d.2).2).2).2;have a:=an (an (an (an e.2).2).2).2;have c:=an (an (an (an a.2).2).2).2
 {⟨oc,od,sl,l⟩,RJ (an h).1,(Bool.not_eq_true' _).mp (an (an h).2).1,(Bool.not_eq_true' _).mp (an (an (an h).2).2).1,qm.mp d.1,gU (an d.2).1,gU (an (an d.2).2).1,k,(an (an (an d.2).2).2).1,qm.mp e.1,gU (an e.2).1,qm.mp (an (an e.2).2).1,sH.mp (an (an (an e.2).2).2).1,sH.mp a.1,gx (an a.2).1,gx (an (an a.2).2).1,(an (an (an a.2).2).2).1,gx c.1,c.2}
def S_(Kf:Frag)(f:Addr)(b:Fn)(d:List Str)(e:Option Nat)(c:FuncData)(a:List Stmt):Bool:=sP Kf b d c && (freeOf e (List.range b.np) && (keepIn Kf (.ref f) && N.e4 {Kf,c.scope.names,ΓOf d,e} b.body a))
noncomputable def Gs(b:FuncBody)(c:List Stmt->Bool):Bool:=match b with
 | .stmts a=>c a
 | _=>false
noncomputable def Gf(d:Data)(b:FuncData->Bool):Bool:=match d with
 | .func a=>b a
 | _=>false
noncomputable def PL(a:FuncData):List Str:=(a.scope.names.filter λ x=>x.2== .local || x.2== .cell).map (·.1)
def F7(Kf:Frag)(f:Addr)(c:Fn)(d:Option Nat):Bool:=uS (Kf.lookup f) λ o=>Gf o.data λ b=>Gs b.body λ a=>S_ Kf f c (PL b) d b a
def I3{b}{c}(h:Gs b c=true):∃a,b= .stmts a/\c a=true:=by cases b<;>first | exact ⟨_,rfl,h⟩ | exact c4 h
def Iy{d}{b}(h:Gf d b=true):∃a,d= .func a/\b a=true:=by cases d<;>first | exact ⟨_,rfl,h⟩ | exact c4 h
def Ed{Kf}{f}{d}{c}(h:F7 Kf f d c=true):keepIn Kf (.ref f)=true/\∃e b a c,n7 Kf f d e b a/\freeOf c (List.range d.np)=true/\N.e4 {Kf,b.scope.names,ΓOf e,c} d.body a=true:=
 (CK h).elim λ o z=>(Iy z.2).elim λ b y=>(I3 y.2).elim λ a w=>
   {(an (an (an w.2).2).2).1,PL b,b,a,c,vj (oc:=o.cls) (od:=o.dict) (sl:=o.slots) (y.1▸z.1) w.1 (an w.2).1,(an (an w.2).2).1,(an (an (an w.2).2).2).2}
def c7(Kf:Frag)(b:List (Addr×Fn))(a:List (Addr×Nat)):Bool:=b.all λ p=>F7 Kf p.1 p.2 (a.lookup p.1)
def zH{Kf}{b}{d}(h:c7 Kf b d=true)(f)(c)(j:List.lookup f b=some c):keepIn Kf (.ref f)=true/\∃g e a i,n7 Kf f c g e a/\freeOf i (List.range c.np)=true/\N.e4 {Kf,e.scope.names,ΓOf g,i} c.body a=true:=
 Ed (gy.mp h _ (h6 j))
def fz{K}{l}{o}(h:c7 K (l.take 16) o=true)(k:c7 K (l.drop 16) o=true):c7 K l o=true:=by
 rw [←List.take_append_drop 16 l,c7,List.all_append];exact nq.mpr ⟨h,k⟩
end PM
end
section
open PySem PySem.W PyProof.Rows PySem.Calls PySem.SeqAt PySem.StrLaws
namespace PQ
open PM
noncomputable section
def nI:FuncData:=FD (cst 1 0) (Str.ofString "WallFault.__init__") 3 N (S "siftwall.faults" 187) (R 27)
def kY:FuncData:=FD (cst 3 0) (Str.ofString "BadText.__init__") 3 (R 54) (S "siftwall.faults" 187) (R 60)
noncomputable def bodyOf(fd:FuncData):List Stmt:=match fd.body with
 | .stmts b=>b
 | _=> []
def O7(p):sP (Kf p) {[],2,2,[]} ["self","why"] nI=true:=⋯
def O6(p):sP (Kf p) {[.int 0,.int 0],4,4,[]} ["self","why","row","column"] kY=true:=⋯
noncomputable def E1(v:Value):Bool:=match v with
 | .type t=> !(t== "traceback")
 | .ref a=> !(a==64)
 | _=>true
def yj(o:Obj):Bool:=match o.data with
 | .fields _=>E1 o.cls
 | _=>true
def wA(p:Params):((Kf p).all λ x=>yj x.2)=true:=⋯
def NT(p):jR (Kf p):=⟨λ b o e x52=>x52.elim λ ws x52=>by
 have z:=gy.mp (wA p) _ (h6 e);obtain ⟨c,dc,da,sl⟩:=o;subst x52;have z:E1 c=true:=z
 exact {λ q=>by cases show c=_ from q;exact absurd z ⋯,λ q=>by cases show c=_ from q;exact absurd z ⋯}⟩
noncomputable def L3(k:NameKind):Bool:=match k with
 | .cell=>true
 | _=>false
def w5{l:List (Str×NameKind)}(h:(l.all λ p=> !L3 p.2)=true):∀x,l.lookup x≠some .cell:=by
 intro x e
 induction l with
 | nil=>contradiction
 | cons a l ih=>
  obtain ⟨h1,h2⟩:=nq.mp h;obtain ⟨k,v⟩:=a;simp [kQ] at e;exact (Bool.eq_false_or_eq_true (x==k)).elim (λ q=>(by rw [q] at e;cases e;contradiction)) λ q=>(by rw [q] at e;exact ih h2 e)
def xm(p:Params):XM (Kf p) where
 look:=⋯
 k:={⋯,⋯,λ n m=>by
  rcases a0.mp m with e | m
  ·subst e;kernel_rfl
  rcases a0.mp m with e | m
  ·subst e;kernel_rfl
  rcases a0.mp m with e | m
  ·subst e;kernel_rfl
  cases cu.mp m;kernel_rfl,⟨{name:="BadText",bases:= [R 31],mro:= [R 64,R 31,T "Exception",T "BaseException",T "object"],ns:=63,qualname:="BadText",hasDict:=true,slotNames:= [],subclasses:= [],abstract:=false,collection:=none,hasDel:=false},⋯,⋯,⋯⟩}
 li:=⋯
 lim:={⋯,⋯}
 Md:={[],2,2,[]}
 Lf:= ["self","why"]
 nI:=nI
 MY:=bodyOf nI
 fA:=vj (oc:=T "function") (od:=none) (sl:= #[]) ⋯ ⋯ (O7 p)
 pA:=⟨rfl,rfl⟩
 sA:={_,_,_,_,_,_,_,_,_,_,_,_,_,_,_,_,rfl,⋯}
 gA:=⋯
 lA:={⋯,⋯}
 Gm:=w5 ⋯
 sP:={[.int 0,.int 0],4,4,[]}
 Le:= ["self","why","row","column"]
 kY:=kY
 MX:=bodyOf kY
 fB:=vj (oc:=T "function") (od:=none) (sl:= #[]) ⋯ ⋯ (O6 p)
 pB:=⟨rfl,rfl⟩
 sB:={_,_,_,_,_,_,_,_,_,_,_,_,_,_,rfl,⋯}
 gB:=⋯
 lB:={⋯,⋯,⋯,⋯}
 Gl:=w5 ⋯
 gc:=⋯
 rd:=⋯
 fc:=⋯
 hi:=⋯
 kp:=⋯
 tf:=⋯
def S5(p):KF (Kf p):={⋯,⋯,⋯}
end
end PQ
namespace PM.N
def F0:KF aL:=PQ.S5 _
def Z0:XM aL:=PQ.xm _
def Sh:jR aL:=PQ.NT _
end PM.N
end
section
open PySem PySem.W PyProof.Rows PySem.Calls PySem.SeqAt PySem.StrLaws
namespace PM.N
def Wr{c:Type}(Q:c->St->Prop)(U:VS)(r:R c):Prop:=match r with
 | .ok a σ=>Q a σ
 | .ex e σ=>U e σ
def Wr.o{b:Type}{Q:b->St->Prop}{U:VS}{r:R b}{a:b}{σ:St}(h:Wr Q U r)(e:r= .ok a σ):Q a σ:=by subst e;exact h
def Wr.x{b:Type}{Q:b->St->Prop}{U:VS}{r:R b}{a:V}{σ:St}(h:Wr Q U r)(e:r= .ex a σ):U a σ:=by subst e;exact h
def Wt{a:Type}(b:Cm)(t:Tree a)(Q:a->St->Prop)(U:VS):Prop:=∃r,Sem b t r/\Wr Q U r
section
variable{α β:Type}{cl:Cm}{Q:β->St->Prop}{U:VS}
def Wt.mono{t:Tree β}{b:β->St->Prop}(h:Wt cl t Q U)(k:∀v σ,Q v σ->b v σ):Wt cl t b U:=h.elim λ r h=>⟨r,h.1,match r,h.2 with | .ok a σ,z=>k a σ z | .ex e σ,z=>z⟩
theorem Wt.b{t:Tree α}{f:α->St->Tree β}(h:Wt cl (bT t f) Q U):Wt cl t (λ a σ=>Wt cl (f a σ) Q U) U:=h.elim λ r h=>(ml t h.1).elim λ b z=>⟨b,z.1,match b,z.2 with | .ok a σ,z=>⟨r,z,h.2⟩ | .ex e σ,z=>by subst z;exact h.2⟩
def Wt.on{o:Option α}{f:α->Tree β}{C:Prop}(h:Wt cl (aF o f) Q U)(k:∀v,o=some v->Wt cl (f v) Q U->C):C:=h.elim λ r h=>(oy h.1).elim λ v z=>k v z.1 ⟨r,z.2,h.2⟩
def Wt.g{c:Prop}[Decidable c]{t:Tree β}{C:Prop}(h:Wt cl (gT c t) Q U)(k:c->Wt cl t Q U->C):C:=h.elim λ r h=>k (L_ h.1).1 {r,(L_ h.1).2,h.2}
theorem Wt.ok{v:β}{σ:St}(h:Wt cl (.ret (.ok v σ)) Q U):Q v σ:=h.elim λ r h=>by cases Sem.d5 h.1;exact h.2
theorem Wt.ex{e:V}{σ:St}(h:Wt cl (.ret (.ex e σ):Tree β) Q U):U e σ:=h.elim λ r h=>by cases Sem.d5 h.1;exact h.2
def Wt.bad{C:Prop}(h:Wt cl (.fail:Tree β) Q U):C:=h.elim λ r h=>nomatch h.1
theorem Wt.o{o:Option β}{σ:St}{C:Prop}(h:Wt cl (iY o σ) Q U)(k:∀v,o=some v->Q v σ->C):C:=by
 cases o with
 | none=>exact h.bad
 | some v=>exact k v rfl h.ok
def Wt.c{b:Bool}{t:Tree β}{C:Prop}(h:Wt cl (cond b t .fail) Q U)(k:b=true->Wt cl t Q U->C):C:=by
 cases b with
 | true=>exact k rfl h
 | false=>exact h.bad
def Tq(Q:Bool->St->Prop)(v:V)(σ:St):Prop:=∃b,v= .bool b/\Q b σ
def Wt.tb{t:Tree V}{a b:St->Tree β}(h:Wt cl (bT t λ v σ=>tB v (a σ) (b σ)) Q U):Wt cl t (Tq λ t σ=>Wt cl (cond t (a σ) (b σ)) Q U) U:=h.b.mono λ v σ h=>h.on λ t e h=>{t,V.o_ e,h}
end
structure Jx where
 A:Around
 env:Env
 l:List Env
 d:Nat
 κ:List (Str×NameKind)
 Γ:List (Str×Nat)
 ow:Option Nat
 cl:Cm
 BK:∀{f vs σ r},cl f vs σ r->P6 d f vs σ r
 n:Nat
 fl:Bool
 Fs:List Addr
 c₀:Cx
 s₀:Shared
noncomputable abbrev Jx.K(J:Jx)(ρ:En)(oa:Addr):Ct:=⟨J.A,J.env,J.l,J.d,J.κ,J.Γ,J.ow,oa,ρ⟩
def Jx.I(J:Jx)(ρ:En)(a:Addr)(σ:St)(c:Cx)(s:Shared):Prop:=Inv (J.K ρ a) J.fl J.Fs J.c₀ J.s₀ σ c s
abbrev Jx.S(J:Jx):Cs:=⟨aL,J.κ,J.Γ,J.ow⟩
abbrev Po(c:Cx)(s:Shared)(σ:St)(c':Cx)(s':Shared):Prop:=bc aL Pw c s σ c' s'
inductive Vp(Q:VS)(c:Cx)(s:Shared)(m:Value)(s':Shared):Prop
 | mk (v:V) (σ:St) (c':Cx) (q:Q v σ) (p:Po c s σ c' s') (r:Rp c' s'.heap v m):Vp Q c s m s'
inductive Lp(Q:List V->St->Prop)(c:Cx)(s:Shared)(ms:List Value)(s':Shared):Prop
 | mk (vs:List V) (σ:St) (c':Cx) (q:Q vs σ) (p:Po c s σ c' s') (r:cy c' s'.heap vs ms):Lp Q c s ms s'
inductive Bp(Q:Bool->St->Prop)(c:Cx)(s:Shared)(b:Bool)(s':Shared):Prop
 | mk (σ:St) (c':Cx) (q:Q b σ) (p:Po c s σ c' s'):Bp Q c s b s'
inductive XP(J:Jx)(U:VS)(e:Value)(s:Shared):Prop
 | mk (wy:Str) (rr cc:Int) (σ:St) (c:Cx) (ρ:En) (oa:Addr) (h:U (.exc wy rr cc) σ) (i:J.I ρ oa σ c s) (a:Addr) (fl:Option Value) (ea:e= .ref a) (q:Rp c s.heap (.exc wy rr cc) (.ref a)) (x:eS c s.heap a fl)
  (f:fl=none∨fl=some .none∨∃L,J.env.frame=some L/\fl=some (rawInt L)):XP J U e s
section
variable{J:Jx}{ρ:En}{oa:Addr}{σ σ':St}{c c':Cx}{s s':Shared}{U:VS}
def Jx.I.g(I:J.I ρ oa σ c s):Gd aL Pw σ c s.heap:=I.h.g
def Jx.I.er(I:J.I ρ oa σ c s):ER Pw J.env J.κ J.Γ J.ow oa ρ c s.heap:=I.h.er
def Jx.I.rm(I:J.I ρ oa σ c s):Rm J.A J.l J.d:=I.h.rm
def Jx.I.fo(I:J.I ρ oa σ c s):cO s.heap c J.l:=I.h.fo
def Jx.I.next(I:J.I ρ oa σ c s)(p:Po c s σ' c' s'):J.I ρ oa σ' c' s':=Inv.next I p
def XP.call{r:R V}{e:Value}(I:J.I ρ oa σ c s)(z:x6 aL Pw r c s e s')(h:∀e σ,r= .ex e σ->U e σ):XP J U e s':=by
 obtain ⟨g,f,b,σ',c',d,p,a,e,q,x⟩:=z;exact {g,f,b,σ',c',ρ,oa,h _ _ d,I.next p,a,_,e,q,x,.inr (.inl rfl)}
def Vp.to{Q:VS}{m:Value}{s₁:Shared}{a:Cx}{b:St}(p:Po c s b a s₁)(z:Vp Q a s₁ m s'):Vp Q c s m s':=z.casesOn λ v σ c' q d r=>{v,σ,c',q,p.trans d,r}
def Bp.to{Q:Bool->St->Prop}{m:Bool}{s₁:Shared}{a:Cx}{b:St}(p:Po c s b a s₁)(z:Bp Q a s₁ m s'):Bp Q c s m s':=z.casesOn λ σ c' q d=>{σ,c',q,p.trans d}
def Po.E5(p:Po c s σ' c' s')(a:c.ok){v:List V}{m:List Value}(r:cy c s.heap v m):cy c' s'.heap v m:=aj.step a p.st _ _ r
def Po.rp(p:Po c s σ' c' s')(a:c.ok){v:V}{m:Value}(r:Rp c s.heap v m):Rp c' s'.heap v m:=Rep.step a p.st _ _ r
def EV(J:Jx)(E:Expr)(ρ:En)(oa:Addr)(σ:St)(Q:VS)(U:VS):Prop:=∀c s,J.I ρ oa σ c s->wpAny M0 J.A (eval E J.env) (Vp Q c s) (XP J U) s
def ET(J:Jx)(E:Expr)(ρ:En)(oa:Addr)(σ:St)(Q:Bool->St->Prop)(U:VS):Prop:=∀c s,J.I ρ oa σ c s->wpAny M0 J.A (isTrue E J.env (eval E J.env)) (Bp Q c s) (XP J U) s
structure EB(J:Jx)(x:X)(E:Expr)(ρ:En)(oa:Addr)(σ:St):Prop where
 v:∀{Q U},Wt J.cl (ev x ρ σ) Q U->EV J E ρ oa σ Q U
 t:∀{Q U},Wt J.cl (ev x ρ σ) (Tq Q) U->ET J E ρ oa σ Q U
def EV.at{E:Expr}{Q:VS}{b:Cx}{s₁:Shared}{a:St}(h:EV J E ρ oa a Q U)(I:J.I ρ oa σ c s)(p:Po c s a b s₁):wpAny M0 J.A (eval E J.env) (Vp Q c s) (XP J U) s₁:=az (h _ _ (I.next p)) (λ ζ ζ z=>z.to p) λ ζ ζ x=>x
def ET.at{E:Expr}{Q:Bool->St->Prop}{b:Cx}{s₁:Shared}{a:St}(h:ET J E ρ oa a Q U)(I:J.I ρ oa σ c s)(p:Po c s a b s₁):wpAny M0 J.A (isTrue E J.env (eval E J.env)) (Bp Q c s) (XP J U) s₁:=az (h _ _ (I.next p)) (λ ζ ζ z=>z.to p) λ ζ ζ x=>x
def EB.of{x:X}{E:Expr}(v:∀{Q U},Wt J.cl (ev x ρ σ) Q U->EV J E ρ oa σ Q U)(i:∀env a,isTrue E env a=(do let v ←a;standAt E.pos;holding [v] (truthy v))):EB J x E ρ oa σ:=
 {v,λ h c s I=>isTrue_plain (az (v h c s I) (λ m g z=>z.casesOn λ v d f q p r=>q.elim λ b z=>by
  obtain ⟨e,y⟩:=z;subst e;rw [pq r]
  exact o1 ⟨d,f,y,p⟩) λ ζ ζ x=>x) (i _ _)}
end
def bE(J:Jx)(es:List Expr)(ρ:En)(a:Addr)(σ:St)(Q:List V->St->Prop)(U:VS):Prop:=∀c s,J.I ρ a σ c s->f7 M0 J.A J.env (XP J U) es (Lp Q c s) s
def Pq(p:Pr)(Q:VS)(vs:List V)(σ:St):Prop:=∃v,prim p σ vs=some v/\Q v σ
section
variable{J:Jx}{ρ:En}{oa:Addr}{σ σ':St}{c c':Cx}{s s':Shared}{U:VS}{Q:VS}{L:List V->St->Prop}{p:Pr}
def bE.seq{es:List Expr}(h:bE J es ρ oa σ L U)(I:J.I ρ oa σ c s):a6 M0 J.A J.env (XP J U) es (Lp L c s) s:=(h c s I).seq
def Po.tk(I:J.I ρ oa σ c s){t:Nat}:Po c s σ c {s with toks:=t}:=.toks I.g
def bE.nil(h:L [] σ):bE J [] ρ oa σ L U:=λ c s I=>{[],σ,c,h,.refl I.g,rfl}
def bE.cons{e:Expr}{es:List Expr}(h:EV J e ρ oa σ (λ v d=>bE J es ρ oa d (λ vs b=>L (v::vs) b) U) U):bE J (e::es) ρ oa σ L U:=λ c s I t=>
 az (h c _ (I.next (.tk I))) (λ a j z=>z.casesOn λ v d g q p r=>f7.mono (λ ζ ζ x=>x) (λ vs k z=>z.casesOn λ n b f l i m=>⟨v::n,b,f,l,((Po.tk I).trans p).trans i,a,vs,rfl,i.rp p.good.ok r,m⟩) (q _ _ (I.next ((Po.tk I).trans p)))) λ ζ ζ x=>x
def P1(x:X):Prop:=∀{J E ρ oa σ},ck J.S x E=true->EB J x E ρ oa σ
def P5(a:List X):Prop:=∀x∈a,P1 x
def P5.hd{x:X}{a:List X}(i:P5 (x::a)):P1 x:=i x (.head _)
def P5.tl{x:X}{a:List X}(i:P5 (x::a)):P5 a:=λ y m=>i y (.tail _ m)
def kh{b:List X}:∀{es:List Expr} {σ:St} {L:List V->St->Prop},P5 b->eA J.S b es=true->Wt J.cl (cw b ρ σ) L U->bE J es ρ oa σ L U:=by
 induction b with
 | nil=>exact λ {es σ L} i a h=>b4 (λ es=>bE J es ρ oa σ L U) a (.nil h.ok)
 | cons x b g=>
  intro es σ L i a h;cases es with
  | nil=>exact c4 a
  | cons e es=>exact .cons ((i.hd (an a).1).v (h.b.mono λ v d h=>g i.tl (an a).2 (h.b.mono λ j f h=>h.ok)))
inductive Pp(p:Pr)(Q:VS)(c:Cx)(s:Shared)(vs:List V)(TB:Shared)(c₁:Cx):Prop
 | mk (TA:St) (v:V) (e:prim p TA vs=some v) (po:Po c s TA c₁ TB) (k:∀m s',PK TB s'->Rp c₁ s'.heap v m->Vp Q c s m s'):Pp p Q c s vs TB c₁
def Lp.pp{ms:List Value}(z:Lp (Pq p Q) c s ms s'){C:Prop}(k:∀vs a,Pp p Q c s vs s' a->cy a s'.heap vs ms->C):C:=z.casesOn λ vs b a q d r=>q.elim λ v q=>k vs _ {b,v,q.1,d,λ m e f g=>{v,b,a,q.2,d.trans (f.post d.good),g}} r
def tE{a:Expr}{T:VP}(h:bE J [a] ρ oa σ (Pq p Q) U)(I:J.I ρ oa σ c s)(k:∀m b d f,Pp p Q c s [f] b d->Rp d b.heap f m->T m b):wpAny M0 J.A (eval a J.env) T (XP J U) s:=
 az (h.seq I) (λ m b z=>Lp.pp z λ i d g r=>r.one.elim λ f z=>by obtain ⟨e,y⟩:=z;subst e;exact k m _ _ f g y) λ ζ ζ x=>x
def ou{a b:Expr}{T:Value->VP}(h:bE J [a,b] ρ oa σ (Pq p Q) U)(I:J.I ρ oa σ c s)(k:∀m n d f i j,Pp p Q c s [i,j] d f->Rp f d.heap i m->Rp f d.heap j n->T m n d):wpAny M0 J.A (eval a J.env) (λ m s₁=>wpAny M0 J.A (eval b J.env) (T m) (XP J U) s₁) (XP J U) s:=
 az (h.seq I) (λ m s₁ z=>az z (λ n d z=>Lp.pp z λ o f l r=>r.two.elim λ i z=>z.elim λ j z=>by refine z.elim λ e g=> ?_;subst e;exact k m n _ _ i j l g.1 g.2) λ ζ ζ x=>x) λ ζ ζ x=>x
def Fc{a b d:Expr}{T:Value->Value->VP}(h:bE J [a,b,d] ρ oa σ (Pq p Q) U)(I:J.I ρ oa σ c s)(k:∀m n o f g j l q,Pp p Q c s [j,l,q] f g->Rp g f.heap j m->Rp g f.heap l n->Rp g f.heap q o->T m n o f):wpAny M0 J.A (eval a J.env) (λ m s₁=>wpAny M0 J.A (eval b J.env) (λ n f=>wpAny M0 J.A (eval d J.env) (T m n) (XP J U) f) (XP J U) s₁) (XP J U) s:=
 az (h.seq I) (λ m s₁ z=>az z (λ n f z=>az z (λ o t z=>Lp.pp z λ v g u r=>r.three.elim λ j z=>z.elim λ l z=>z.elim λ q z=>by refine z.elim λ e i=> ?_;subst e;exact k m n o _ _ j l q u i.1 i.2.1 i.2.2) λ ζ ζ x=>x) λ ζ ζ x=>x) λ ζ ζ x=>x
def Ez{a b:Expr}{op:Operator}{pos:Pos}(h:bE J [a,b] ρ oa σ (Pq (.bin op) Q) U):EV J (.BinOp a op b pos) ρ oa σ Q U:=λ c s I=>
 wpAny_BinOp (ou h I λ m n i f o q z j l=>z.casesOn λ d v e g k=>MZ e j l I.rm.hd g.good.ok g.good.lt k)
def Jx.I.u(I:J.I ρ oa σ c s):J.A.units+30<cLine:=I.rm.u (by simp)
def Ep{a b:Expr}{op:CmpOp}{pos:Pos}(d:cq b=true)(h:bE J [a,b] ρ oa σ (Pq (.cmp op) Q) U):EV J (.Compare a [op] [b] pos) ρ oa σ Q U:=λ c s I=>
 A7 (ou h I λ m n i g r u z o q=>z.casesOn λ f v e l k=>vG l.good I.u e o q λ b t j=>k _ _ (.toks _ _) (j▸rfl)) (jl d)
def DI{a:Expr}{pos:Pos}(h:bE J [a] ρ oa σ (Pq .neg Q) U):EV J (.UnaryOp .USub a pos) ρ oa σ Q U:=λ c s I=>
 wpAny_UnaryOp (tE h I λ m f d j z r=>z.casesOn λ b v e i k=>ab e λ x g e=>cf (λ m=>wpAny M0 J.A _ _ _ _) g r λ t=>neg_int (k _ _ (.toks _ _) (ar e▸⟨_,rfl⟩)))
def zA{a:Expr}{pos:Pos}(h:bE J [a] ρ oa σ (Pq .not Q) U):EV J (.UnaryOp .Not a pos) ρ oa σ Q U:=λ c s I=>
 wpAny_UnaryOp (tE h I λ m f d j z r=>z.casesOn λ b v e i k=>ab e λ x g e=>yv (λ m=>wpAny M0 J.A _ _ _ _) g r (not_of (o1 (k _ _ (.refl _) (ar e▸rfl)))))
def xA{a:Expr}{op:CmpOp}{q:Nat}{l pos:Pos}(o:(p= .iE/\op= .Is)∨(p= .vf/\op= .IsNot))(h:bE J [a] ρ oa σ (Pq p Q) U):EV J (.Compare a [op] [.Constant .none q l] pos) ρ oa σ Q U:=λ c s I=>by
 refine A7 (tE h I λ m j f u z r=>z.casesOn λ d v e t k=>aD ?_) (jl rfl);have n:=Dm r
 rcases o with ⟨g,i⟩ | ⟨g,i⟩<;>subst g i
 ·exact wpAny_is_plain n.2 (k _ _ (.refl _) (ar e▸congrArg _ n.1))
 ·exact wpAny_isNot_plain n.2 (k _ _ (.refl _) (ar e▸congrArg (λ b=>Value.bool !b) n.1))
def BA{a b:Expr}{pos:Pos}(d:lV b=true)(h:bE J [a,b] ρ oa σ (Pq .item Q) U):EV J (.Subscript a b pos) ρ oa σ Q U:=λ c s I=>af (az (ou h I λ m n l g r u z j o=>z.casesOn λ f v e i k=>af (eM (pd (L2 i.good e j) (by cases b<;>first | rfl | cases d) (xy i.good I.u e j o λ m t q=>k _ _ (.toks _ _) q)))) (λ ζ ζ z=>af (i1 z)) λ ζ ζ x=>x)
end
section
variable{J:Jx}{ρ:En}{oa:Addr}{σ σ' TA:St}{c c' c₁:Cx}{s s' TB:Shared}{U:VS}{Q:VS}{L:List V->St->Prop}{p:Pr}{A:Around}{T E:VP}{v1:V}{o l u t:Value}{vE a b:Expr}{sp pos np:Pos}{f:Str}{args es:List Expr}
def mF(A:Around)(T E:VP)(o l u t:Value)(d:Shared):Prop:=gX o {d with heap:=d.heap.push (mq l u t)}/\wpAny M0 A (getItem o (.ref d.heap.objs.size)) T E {d with heap:=d.heap.push (mq l u t)}
def C1{x:Str}{l u:Option (Int×Tok)}(d:v1.s? =some x)(g:Rp c₁ TB.heap v1 o)(e:x.length<=cY)(k:∀m s',PK TB s'->Rp c₁ s'.heap (.str (rL (l.map (·.1)) (u.map (·.1)) x)) m->T m s'):mF A T E o (partValue l) (partValue u) .none TB:=
 bf (λ o=>mF A T E o _ _ _ _) d g λ ζ=>{E0,str_slice k e}
def yk{x:List V}{lo hi st:Option Int}(h:v1.l? =some x)(v:Rp c₁ TB.heap v1 o)(g:Gd aL Pw TA c₁ TB.heap)(i:x.length<=1000000)(n:IsPart l lo)(r:IsPart u hi)(q:IsPart t st)(e:st≠some 0)(k:∀m s',PK TB s'->Rp c₁ s'.heap (.lst (dU lo hi st x)) m->T m s'):mF A T E o l u t TB:=
 eG (λ o=>mF A T E o l u t _) h v λ a j ζ d y=>⟨tA (m:=.none) {_,b9 _ d.choose_spec} (.inl rfl),yU g.ok g.lt d y i n r q e k⟩
def C5(h:bE J [vE,a] ρ oa σ (Pq .mN Q) U):EV J (.Subscript vE (.Slice (some a) none none sp) pos) ρ oa σ Q U:=λ c s I=>
 jU (ou h I λ o l TB c₁ v1 y z j q=>z.casesOn λ TA v d n k=>aD (aD (ab d λ i m d=>cf (λ l=>mF J.A _ _ o l _ _ _) m q λ r=>
  aO d (λ d=>ab d λ x g d=>aR d λ e d=>C1 (l:=some (i,r)) (u:=none) g j e.2 (ar d▸k)) λ d=>ab d λ x g d=>aR d λ e d=>yk g j n.good e.2 (.int _ _) .none .none nofun (ar d▸k))))
def C4(h:bE J [vE,a] ρ oa σ (Pq .gK Q) U):EV J (.Subscript vE (.Slice none (some a) none sp) pos) ρ oa σ Q U:=λ c s I=>
 jU (az (ou h I λ o u TB c₁ v1 P z r G=>z.casesOn λ TA v d q k=>aD (ab d λ i C d=>cf (λ u=>mF J.A _ _ o _ u _ _) C G λ M=>
  aO d (λ d=>ab d λ x j d=>aR d λ g d=>C1 (l:=none) (u:=some (i,M)) j r g.2 (ar d▸k)) λ d=>
  aO d (λ d=>ab d λ x j d=>aR d λ g d=>yk j r q.good g.2 .none (.int _ _) .none nofun (ar d▸k)) λ d=>ab d λ x j d=>aR d λ g d=>d6 (λ o=>mF J.A _ _ o _ _ _ _) j r λ N D F y H=>by
   refine (Int.eq_ofNat_of_zero_le g.1.1).elim λ n e=> ?_;subst e
   exact ⟨tA (m:=.none) {_,b9 _ y.choose_spec} (.inr rfl),zF q.good.ok q.good.lt F y H g.2 (ar d▸k)⟩)) (λ o B z=>aD z) λ ζ ζ x=>x)
def zM(h:bE J [vE,a,b] ρ oa σ (Pq .mM Q) U):EV J (.Subscript vE (.Slice (some a) (some b) none sp) pos) ρ oa σ Q U:=λ c s I=>
 jU (Fc h I λ o l u TB c₁ v1 F G z m y B=>z.casesOn λ TA v d r k=>aD (ab d λ i n d=>ab d λ j q d=>cf (λ l=>mF J.A _ _ o l u _ _) n y λ C=>cf (λ u=>mF J.A _ _ o _ u _ _) q B λ D=>
  aO d (λ d=>ab d λ x g d=>aR d λ e d=>C1 (l:=some (i,C)) (u:=some (j,D)) g m e.2 (ar d▸k)) λ d=>ab d λ x g d=>aR d λ e d=>yk g m r.good e.2 (.int _ _) (.int _ _) .none nofun (ar d▸k)))
def C3(h:bE J [vE,a,b] ρ oa σ (Pq .mL Q) U):EV J (.Subscript vE (.Slice (some a) none (some b) sp) pos) ρ oa σ Q U:=λ c s I=>
 jU (az (Fc (T:=λ o l t n=>mF J.A _ _ o l _ t _) h I λ o l t TB c₁ v1 M N z C D F=>z.casesOn λ TA v d B k=>ab d λ x y d=>ab d λ i q d=>ab d λ j r d=>aR d λ g d=>cf (λ l=>mF J.A _ _ o l _ t _) q D λ G=>cf (λ t=>mF J.A _ _ o _ _ t _) r F λ H=>
  yk y C B.good g.2 (.int _ _) .none (.int _ _) (λ e=>absurd g.1.2.2.1 (by rw [ar e];decide)) (ar d▸k)) (λ o m z=>az z (λ l TB z=>aD z) λ ζ ζ x=>x) λ ζ ζ x=>x)
def tD{T:List Value->Shared->Prop}(h:bE J es ρ oa σ (Pq p Q) U)(I:J.I ρ oa σ c s)(k:∀ms TB c₁ vs,Pp p Q c s vs TB c₁->cy c₁ TB.heap vs ms->T ms TB):a6 M0 J.A J.env (XP J U) es T s:=a6.mono (λ ζ ζ x=>x) (λ ms TB z=>z.pp λ vs c₁ d r=>k ms _ _ vs d r) (h.seq I)
def CM{i:Nat}(g:es.all noStar=true)(h:bE J es ρ oa σ (Pq .tup Q) U):EV J (.Tuple es i pos) ρ oa σ Q U:=λ c s I=>show wpAny _ _ _ _ _ _ from
 af (eM (af (a6.spliced g (tD h I λ n TB c₁ q z m=>z.casesOn λ TA v d j k=>aR d λ e d=>uq (.inl {(ar d).symm,rfl}) e j m k))))
def DQ(g:es.all noStar=true)(h:bE J es ρ oa σ (Pq .lst Q) U):EV J (.List es pos) ρ oa σ Q U:=λ c s I=>show wpAny _ _ _ _ _ _ from
 af (eM (af (a6.spliced g (tD h I λ m TB c₁ n z j=>z.casesOn λ TA v d i k=>aR d λ e d=>uq (.inr {(ar d).symm,rfl}) e i j k))))
def EC{b:x7}(g:args.all noStar=true)(i:b≠.nC/\b≠.dict)(e:gk aL J.κ f (zo b)=true)(h:bE J args ρ oa σ (Pq (.ek b) Q) U):EV J (.Call (.Name f np) args [] pos) ρ oa σ Q U:=λ c s I=>af (eX F0 I.g.bC I.er e (bh g (λ a=>by cases b<;>exact Value.noConfusion) (tD h I λ n TB c₁ q z m=>z.casesOn λ TA v d j k=>M3 i I.rm.hd j.good d m k)))
def BE(g:args.all noStar=true)(e:gk aL J.κ f (.type "int")=true)(h:bE J args ρ oa σ (Pq (.ek .nC) Q) U):EV J (.Call (.Name f np) args [] pos) ρ oa σ Q U:=λ c s I=>af (eX F0 I.g.bC I.er e (bh g nofun (tD h I λ j TB c₁ r z i=>z.casesOn λ TA v d n k=>Il d i λ m t q=>k _ _ (.toks _ _) q)))
end
section
variable{J:Jx}{ρ:En}{oa:Addr}{σ σ' TA:St}{c c' c₁:Cx}{s s' s₁ TB:Shared}{U:VS}{Q:VS}{L:List V->St->Prop}{p:Pr}{A:Around}{T E:VP}{v1:V}{o l u t:Value}{vE a b:Expr}{sp pos np:Pos}{f n:Str}{args es vals:List Expr}{keys:List (Option Expr)}{ks:List Str}
def Cy(g:baseOk vE=true)(d:bu aL n=true)(h:bE J [vE] ρ oa σ (Pq (.attr n) Q) U):EV J (.Attribute vE n pos) ρ oa σ Q U:=λ c s I=>sZ g (tE h I λ m TB c₁ v1 z r=>z.casesOn λ TA v e i k=>rR i.good d e r λ m t q=>k _ _ (.toks _ _) q)
def Jx.I.no{b}(I:J.I ρ oa σ c s)(d:s.heap.get? b=none):b∉c.H:=λ m=>(I.g.low _ m).elim λ o e=>aQ (d.symm.trans e)
noncomputable abbrev dO:Obj:={cls:=.type "dict",data:=.dict #[]}
noncomputable abbrev dS(s:Shared):Shared:={s with heap:=s.heap.push dO}
set_option genInjectivity true in
structure Dt(c:Cx)(s:Shared)(TA:St)(c₁:Cx)(TB:Shared):Prop where
 m:s.heap.objs.size∈c₁.H
 nS:s.heap.objs.size∉c₁.S
 e:TB.heap.get? s.heap.objs.size=some dO
 o:eC aL Pw c.Fs c s TA c₁ TB
def Eh(I:J.I ρ oa σ c s):Po c s σ (c.eK s.heap.objs.size) (dS s):=.eK I.g (λ ζ ζ e=>b9 _ e) rfl rfl (aE _) {_,dW _ rfl}
theorem Dt.of(I:J.I ρ oa σ c s)(p:Po (c.eK s.heap.objs.size) (dS s) TA c₁ TB):Dt c s TA c₁ TB:=
 have n:=I.g.ok.no (I.no (aE _));have e:=dW (h:=s.heap) rfl
 {p.st.bz _ (.head _),p.st.gQ e n,p.st.b3 e n (I.g.ok.cF (I.no (aE _))) nofun,.of I.g.ok ((Eh I).trans p)}
def Dt.up{d}{tk}(z:Dt c s TA c₁ TB)(e:Heap.SameBut s.heap.objs.size TB.heap d)(ex:∃o,d.get? s.heap.objs.size=some o):dE c₁ TB.heap d s.heap.objs.size/\eC aL Pw c.Fs c s TA c₁ {TB with heap:=d,toks:=tk}:=
 have u:={z.m,z.nS,λ a q=>e.2 a q,ex}
 {u,z.o.off u (aE _)}
inductive DR(L:List V->St->Prop)(ks:List Str)(c:Cx)(s s₁:Shared):Prop
 | mk (vs:List V) (TA:St) (c₁:Cx) (mvs:List Value) (q:L vs TA) (O:eC aL Pw c.Fs c s TA c₁ s₁) (m:s.heap.objs.size∈c₁.H) (nS:s.heap.objs.size∉c₁.S) (hd:DictAt Pw s₁.heap s.heap.objs.size ks mvs) (rr:cy c₁ s₁.heap vs mvs):DR L ks c s s₁
def vx(I:J.I ρ oa σ c s)(m:keysOk ks keys=true)(v:ks.length=vals.length)(C:ks.Nodup)(B:ks≠[])(F:ks.length<=15)(h:bE J vals ρ oa σ L U)(k:∀s₁,DR L ks c s s₁->T (.ref s.heap.objs.size) s₁):wpAny M0 J.A (eval (.Dict keys vals pos) J.env) T (XP J U) s:=by
 have a:=v9 m;refine wpAny_Dict_walk (knd:=strKind PR W0) a.1 (a.2.trans v) (λ e=>B (List.length_eq_zero_iff.mp (a.2.symm.trans (congrArg _ e)))) (a.2▸F) (az (yD m v (h _ (dS s) (I.next (Eh I)))) (λ j TB z=>z.elim λ i z=>z.2.2.2.casesOn λ G TA c₁ q p r=> ?_) λ ζ ζ x=>x);have d:=Dt.of I p;refine display_done_str z.1 (by simp [z.2.1,hI z.2.2.1];exact C) {_,_,_,d.e,⟨rfl,rfl,rfl⟩,rfl,λ ζ h=>by simp_all,Pairs.nil,kO} λ H y D=> ?_;have u:=d.up (tk:=TB.toks+j.length) D (y.elim λ o z=>z.elim λ ζ z=>z.elim λ ζ z=>⟨o,z.1⟩);have g:=DictAt.of y (not_modules F0 I.g.bC);rw [z.2.1,hI z.2.2.1,Bg (z.2.2.1.symm▸bV _)] at g;exact k _ {G,TA,c₁,i,q,u.2,d.m,d.nS,g,r.off p.good.ok u.1}
def xX(I:J.I ρ oa σ c s)(d:s.heap.objs.size∉c₁.S):s.heap.objs.size∉(c₁.back c).H:=λ q=>(e6.mp q).elim (I.no (aE _)) d
def Ej(j:keysOk ks keys=true)(k:ks.length=vals.length)(r:ks.Nodup)(g:ks≠[])(x:ks.length<=15)(h:bE J vals ρ oa σ (Pq (.bH ks) Q) U):EV J (.Dict keys vals pos) ρ oa σ Q U:=λ c s I=>
 vx I j k r g x h λ s₁ z=>z.casesOn λ C TA c₁ d q O m y i B=>q.elim λ v q=>aR q.1 λ ζ e=>{v,TA,c₁.back c,q.2,O.post,ar e▸{_,d,rfl,xX I y,i,aj.mono (Cx.fv O.g.ok O.st) _ _ B}}
def vQ(I:J.I ρ oa σ c s){o'}(O:eC aL Pw c.Fs c s TA c₁ s₁)(m:s.heap.objs.size∈c₁.H)(e:s.heap.objs.size∉c₁.S)(r:aS Pw c₁ s₁.heap s.heap.objs.size s.heap.objs.size o')(q:Q (.ref TA.length) (TA++ [o'])):Vp Q c s (.ref s.heap.objs.size) s₁:=
 have d:=λ q=>I.no (aE _) (I.g.ok.f _ (O.fs▸q))
 {_,_,c₁.adopt _ _,q,(O.adopt m m e e d d (aE _) (aE _) r).full,_,rfl,O.g.ln▸L0}
def AF(i:keysOk ks keys=true)(j:ks.length=vals.length)(k:ks.Nodup)(e:ks≠[])(r:ks.length<=15)(h:bE J vals ρ oa σ (λ vs σ=>Q (.ref σ.length) (σ++ [.dict ks vs])) U):EV J (.Dict keys vals pos) ρ oa σ Q U:=λ c s I=>
 vx I i j k e r h λ s₁ z=>z.casesOn λ vs TA c₁ d q O m v g x=>vQ (o':=.dict ks vs) I O m v ⟨rfl,d,g,x⟩ q
def iK(I:J.I ρ oa σ c s)(k:∀s',PK s s'->s'.heap.get? s.heap.objs.size=some {.type "dict",none,.dict #[] 0,#[]}->(s.heap.objs.size==sysModules)=false->T (.ref s.heap.objs.size) s'):wpAny M0 J.A (eval (.Dict [] [] pos) J.env) T E s:=
 wpAny_Dict_empty (k _ (.push _ _ _) (dW _ rfl) (not_modules F0 I.g.bC))
def BZ(q:Q (.bH [] []) σ):EV J (.Dict [] [] pos) ρ oa σ Q U:=λ c s I=>iK I λ s' d e g=>{_,σ,c,q,d.post I.g,_,[],rfl,I.no (aE _),{[],0,e,trivial,kO,g},rfl}
def D4(q:Q .j7 σ):EV J (.Dict [] [] pos) ρ oa σ Q U:=λ c s I=>iK I λ s' d e g=>{_,σ,c,q,d.post I.g,_,rfl,I.no (aE _),0,e,g}
def Lh{o'}{a d}(g:Gd aL Pw σ c s.heap)(q:PK s s')(i:s.heap.get? a=none)(j:s.heap.get? d=none)(z:∃o,s'.heap.get? a=some o)(B:∃o,s'.heap.get? d=some o)(r:Po c s σ (c.d7 [a,d]) s'->aS Pw (c.d7 [a,d]) s'.heap a d o'):Po c s (σ++ [o']) ((c.d7 [a,d]).adopt a d) s':=
 have h:∀{C:Addr->Prop},C a->C d->∀b∈[a,d],C b:=λ x y b m=>(a0.mp m).elim (λ e=>e▸x) λ m=>cu.mp m▸y;have p:Po c s σ (c.d7 [a,d]) s':=.d7 g q.keep q.gens q.os (h i j) (h z B);have k:∀{b},s.heap.get? b=none->b∉c.H:=λ e m=>(g.low _ m).elim λ o v=>aQ (e.symm.trans v)
 (eC.adopt {p.good,p.st,p.gens,p.os,g.ok,p.fs,λ ζ m=>m} (.head _) (.tail _ (.head _)) (λ m=>k i (g.ok.s _ m)) (λ m=>k j (g.ok.s _ m)) (λ m=>k i (g.ok.f _ m)) (λ m=>k j (g.ok.f _ m)) i j (r p)).full
def Vp.new{o'}{a}(I:J.I ρ oa σ c s)(p:Po c s TA c₁ s₁)(h:PK s₁ s')(d:s₁.heap.get? a=none)(ex:∃g,s'.heap.get? a=some g)(e:Po c₁ s₁ TA (c₁.d7 [a,a]) s'->aS Pw (c₁.d7 [a,a]) s'.heap a a o')(q:Q (.ref TA.length) (TA++ [o'])):Vp Q c s (.ref a) s':=
 {_,_,_,q,p.trans (Lh p.good h d d ex ex e),_,rfl,p.good.ln▸L0}
def yM(q:Q (.ref σ.length) (σ++ [.known none])):EV J (.Dict [] [] pos) ρ oa σ Q U:=λ c s I=>iK I λ s' d e g=> .new (o':=.known none) I (.refl I.g) d (aE _) ⟨_,e⟩ (λ ζ=>{rfl,0,e,g}) q
def yN(q:Q (.ref σ.length) (σ++ [.dict [] []])):EV J (.Dict [] [] pos) ρ oa σ Q U:=λ c s I=>iK I λ s' d e g=> .new (o':=.dict [] []) I (.refl I.g) d (aE _) ⟨_,e⟩ (λ ζ=>{rfl,[],{[],0,e,trivial,kO,g},rfl}) q
inductive KR(L:List V->St->Prop)(c:Cx)(s s₁:Shared):Prop
 | mk (l:List V) (v:V) (ks:List Str) (TA:St) (c₁:Cx) (kk:Addr) (m:Value) (kvs:List Value) (q:L [.tup l,v] TA) (hs:strsOf l=some ks) (O:eC aL Pw c.Fs c s TA c₁ s₁) (mH:s.heap.objs.size∈c₁.H) (nS:s.heap.objs.size∉c₁.S) (ka:cE Pw s₁.heap s.heap.objs.size (some (ks,kk,m))) (nk:kk∉c₁.H) (sq:SeqAt s₁.heap kk "tuple" kvs) (sa:StrsAre ks kvs) (rv:Rp c₁ s₁.heap v m):KR L c s s₁
def Mr{h:Heap}{a}(e:h.get? a=some dO):h.DictOfH (tupleKind (strKind PR W0)) a []:={_,_,_,e,⟨rfl,rfl,rfl⟩,rfl,rfl,by simp,by simp}
def JG{a h}{kvs}{i}{T:Unit->Shared->Prop}(m:A.units<cLine)(e:s.heap.get? a=some dO)(r:SeqAt s.heap h "tuple" kvs)(q:StrsAre ks kvs)(k:∀d tk,d.DictOfH (tupleKind (strKind PR W0)) a [(ks,h,i)]->Heap.SameBut a s.heap d->T () {s with heap:=d,toks:=tk}):wpAny M0 A (storeAll a [(.ref h,i)]) T E s:=by
 unfold storeAll;rw [sC];exact af (af (wpAny_dictSet_heap m (r.ju q) (Mr e) (λ d j g=>aD (aD (k _ _ j g))) (by simp)))
def xw{v vE}(I:J.I ρ oa σ c s)(h:bE J [v,vE] ρ oa σ L U)(i:∀v1 g TA,L [v1,g] TA->∃l ks,v1.t? =some l/\strsOf l=some ks)(k:∀s₁,KR L c s s₁->T (.ref s.heap.objs.size) s₁):wpAny M0 J.A (eval (.Dict [some v] [vE] pos) J.env) T (XP J U) s:=by
 refine wpAny_Dict_any rfl rfl (List.cons_ne_nil _ _) (eN rfl) (pairTrees_cons_walk (az (h.seq (I.next (Eh I))) (λ H s₁ z=>az z (λ F TB z=>pairTrees_nil_walk (z.casesOn λ M TA c₁ q p r=>r.two.elim λ v1 y=>y.elim λ g y=> ?_)) λ ζ ζ x=>x) λ ζ ζ x=>x));have e:=y.1;subst e;refine (i v1 g _ q).elim λ l w=>w.elim λ ks w=> ?_;cases V.rX w.1;refine y.2.1.elim λ B x=>x.elim λ j x=> ?_;have e:=x.1;subst e;have d:=Dt.of I p;refine JG (I.rm.u (n:=0) (by simp)) d.e x.2.2.1 (eW w.2 x.2.2.2) λ G tk m C=> ?_;have u:=d.up (tk:=tk) C (m.elim λ o z=>z.elim λ ζ z=>z.elim λ ζ z=>⟨o,z.1⟩);exact k _ {l,g,ks,TA,c₁,B,F,j,q,w.2,u.2,d.m,d.nS,cE.of m (not_modules F0 I.g.bC),x.2.1,x.2.2.1.elim λ n D=>{n,(u.1.bx B λ q=>x.2.1 (q▸d.m)).trans D},eW w.2 x.2.2.2,y.2.2.off p.good.ok u.1}
def D3{j vE}(h:bE J [j,vE] ρ oa σ (Pq .j6 Q) U):EV J (.Dict [some j] [vE] pos) ρ oa σ Q U:=λ c s I=>
 xw I h (λ v1 M TA q=>q.elim λ v q=>ab q.1 λ l k e=>ab e λ ks d ζ=>⟨l,ks,k,d⟩) λ s₁ z=>z.casesOn λ l v ks TA c₁ x m i q d O H B r C G F D=>q.elim λ w q=>ab q.1 λ y g e=>
  have sub:=Cx.fv O.g.ok O.st
  {w,TA,c₁.back c,q.2,O.post,ar e▸ar (d.symm.trans g)▸{_,x,m,i,rfl,xX I B,λ q=>C (sub _ q),r,G,F,Rep.mono sub _ _ D}}
noncomputable def C2(d:Cm)(f:V->V->St->Tree V)(Q:VS)(U:VS):List V->St->Prop
 | [a,b],σ=>Wt d (f a b σ) Q U
 | _,_=>False
def yL{i vE:Expr}(h:bE J [i,vE] ρ oa σ (C2 J.cl (λ a v σ=>aF a.t? λ l=>aF (strsOf l) λ ks=> .ret (.ok (.ref σ.length) (σ++ [.known (some (ks,v))]))) Q U) U):EV J (.Dict [some i] [vE] pos) ρ oa σ Q U:=λ c s I=>
 xw I h (λ v1 M TA q=>Wt.on q λ l e q=>q.on λ ks d ζ=>⟨l,ks,e,d⟩) λ s₁ z=>z.casesOn λ l v ks TA c₁ r m g q j O y B k C G F D=>Wt.on q λ H e q=>q.on λ x d q=>
  vQ (o':=.known (some (ks,v))) I O y B ⟨rfl,r,m,g,C,k,G,F,D⟩ (ar (d.symm.trans ((congrArg _ (ar e).symm).trans j))▸q.ok)
end
section
variable{J:Jx}{ρ:En}{oa:Addr}{σ σ' TA:St}{c c' c₁:Cx}{s s' s₁ TB:Shared}{U:VS}{Q:VS}{L:List V->St->Prop}{p:Pr}{A:Around}{T E:VP}{v1:V}{o l u t:Value}{vE a b lE rE:Expr}{sp pos np apos:Pos}{f n:Str}{args es vals:List Expr}{x:X}{xs:List X}
def NX:VS:=λ ζ ζ=>False
def Wt.call{d:Cm}{f:Addr}{vs:List V}(h:Wt d (bp f vs σ) Q U):∃r,d f vs σ r/\Wr Q U r:=h.elim λ r h=>{r,IY h.1,h.2}
def IX{f:Addr}{vs:List V}{ms:List Value}(I:J.I ρ oa σ c s)(p:Po c s TA c₁ s₁)(h:Wt J.cl (bp f vs TA) Q U)(r:cy c₁ s₁.heap vs ms):wpAny M0 J.A (PySem.call (.ref f) ms) (Vp Q c s) (XP J U) s₁:=h.call.elim λ B h=>
 have d:=I.next p
 az (iN.call (J.BK h.1).c d.rm d.fo d.g r) (λ m j z=>vT.casesOn z λ v g i e y q=>{v,g,i,h.2.o e,p.trans y,q}) λ e j z=>XP.call d z λ ζ ζ e=>h.2.x e
def nY{f:Addr}{pre:List V}{e:List Value}{d:Cx}{g:Shared}{j:St}(v:args.all noStar=true)(m:keepIn aL (.ref f)=true)(i:J.I ρ oa j d g)(p:Po d g σ c s)(y:cy c s.heap pre e)(h:bE J args ρ oa σ (λ vs σ=>Wt J.cl (bp f (pre++vs) σ) Q U) U):
 wpAny M0 J.A (callWith pos (.ref f) e (backTo pos (starEach args J.env)) []) (Vp Q d g) (XP J U) s:=
 fu v (λ h X=>l_ m h X) (a6.mono (λ ζ ζ x=>x) (λ B TB z=>z.casesOn λ vs TA c₁ q k r=>{k.good.bC,IX i (p.trans k) q (aj.append' (k.E5 p.good.ok y) r)}) (h.seq (i.next p)))
def Ce{g:Addr}(i:args.all noStar=true)(d:iT aL J.κ f (.ref g)=true)(e:keepIn aL (.ref g)=true)(h:bE J args ρ oa σ (λ vs σ=>Wt J.cl (bp g vs σ) Q U) U):EV J (.Call (.Name f np) args [] pos) ρ oa σ Q U:=λ c s I=>af (jn F0 I.g.bC I.er d (nY (pre:= []) i e I (.refl I.g) rfl h))
def zl{i:Nat}{g:Addr}(k:args.all noStar=true)(r:cI f=true)(e:J.Γ.lookup f=some i)(d:J.ow≠some i)(m:ay ρ i=some (.fn g))(j:(∀o∈σ,o.val)->keepIn aL (.ref g)=true)(h:bE J args ρ oa σ (λ vs σ=>Wt J.cl (bp g vs σ) Q U) U):EV J (.Call (.Name f np) args [] pos) ρ oa σ Q U:=λ c s I=>by
 refine af (jE I.er r e m λ v q=> ?_);have q:=q.rep d;exact q▸nY (pre:= []) k (j I.g.vals) I (.refl I.g) rfl h
def AK{g:Addr}(e:args.all noStar=true)(k:args.length<29)(i:baseOk a=true)(d:(apos.endLine==pos.line)=true)(y:uM aL n g=true)(j:keepIn aL (.ref g)=true)(h:EV J a ρ oa σ (λ v σ=>nE σ v n=true/\bE J args ρ oa σ (λ vs σ=>Wt J.cl (bp g (v::vs) σ) Q U) U) U):EV J (.Call (.Attribute a n apos) args [] pos) ρ oa σ Q U:=λ c s I=>by
 rw [arm_eval_Call,cD i];refine af (az (h c s I) (λ m s₁ z=>z.casesOn λ v TA c₁ q p r=>af (eM ?_)) λ ζ ζ x=>x);unfold methodCall
 rw [(by
  unfold methodCallForm;rw [r0 e]
  exact jI (o4 k (by simp)):methodCallForm _ _ _=true)]
 exact af (i1 (DO p.good y q.1 r (af (oX (by unfold methodCallPos;exact if_pos d) (nY e j I p (pre:= [v]) {m,[],rfl,r,rfl} q.2)))))
def DP{m:Met}(B:args.all noStar=true)(F:args.length<29)(D:baseOk a=true)(d:(apos.endLine==pos.line)=true)(h:EV J a ρ oa σ (λ v σ=>qh m σ v=true/\bE J args ρ oa σ (λ vs σ=>∃y,kx m σ v vs=some y/\Q y σ) NX) U):EV J (.Call (.Attribute a (m4 m).2.1 apos) args [] pos) ρ oa σ Q U:=λ c s I=>
 LU (cD D) (by rw [r0 B];exact jI (o4 F (by simp))) d (az (h c s I) (λ x s₁ z=>z.casesOn λ v TA c₁ q p r=>by
  have t:=yP (K:=J.K ρ oa) p.good q.1 r
  exact {_,_,(m5 m).pa,(m5 m).slot,(m5 m).ty,t.1,t.2,bh B nofun (a6.mono (λ e s' x=>XP.casesOn x λ ζ ζ ζ ζ ζ ζ ζ h ζ ζ ζ ζ ζ ζ ζ=>h.elim) (λ P TB z=>z.casesOn λ vs g i k j H=>k.elim λ y k=>HO j.good k.1 (j.rp p.good.ok r) H λ N C G M=>{y,g,i,k.2,(p.trans j).trans (G.post j.good),M}) (q.2.seq (I.next p)))}) λ ζ ζ x=>x)
def AE(d:noStar a=true)(j:gk aL J.κ f (.type "list")=true)(h:EV J a ρ oa σ (λ v σ=>∃l,v.l? =some l/\l.length<=1000000/\Q (.ref σ.length) (σ++ [.list l])) U):EV J (.Call (.Name f np) [a] [] pos) ρ oa σ Q U:=λ c s I=>af (eX F0 I.g.bC I.er j (bh ((nc _).trans d) nofun (az (h c s I) (λ m s₁ z=>z.casesOn λ v TA c₁ q p r=>q.elim λ l q=>eG (λ m=>wpAny M0 J.A (PySem.call _ [m]) _ _ _) q.1 r λ y g ζ C i=>call_list_seq y (.inl rfl) C.choose_spec rfl rfl (λ D c' k d=> .new (o':=.list l) I p ⟨k,rfl,rfl⟩ (aE _) ⟨_,d⟩ (λ B=>{rfl,g,⟨_,d⟩,B.E5 p.good.ok i}) q.2.2) (by exact e7▸i.length▸dd q.2.1)) λ ζ ζ x=>x)))
def z7{kk:Nat}{Z:Pos}(hb:baseOk a=true)(g:(apos.endLine==pos.line)=true)(h:EV J a ρ oa σ (λ v σ=>∃i p,v.r? =some i/\headOf σ i=some p/\p.2.length<=999999/\Q p.1 (σ.set i (.list p.2))) U):EV J (.Call (.Attribute a "pop" apos) [.Constant (.int 0) kk Z] [] pos) ρ oa σ Q U:=λ c s I=>
 LU (cD hb) rfl g (az (h c s I) (λ m s₁ z=>z.casesOn λ v TA c₁ q B r=>q.elim λ i q=>q.elim λ p q=>iq (λ m=>MethodOnS PR W0 J.A _ _ m pos _ _ _) q.1 r λ b j=>by
  have k:=D7 q.2.1;refine (B.good.at j k).elim λ d z=>z.2.2.elim λ mvs W=>W.1.elim λ n H=>W.2.elim λ N y=>y.elim λ M y=> ?_;have e:=y.1;subst e;refine {"list","list.pop",F.plainAttrs_list,F.slot_list_pop,F.type_list_pop,⟨_,H,rfl⟩,λ b e=>by simp_all,P.pop_at_list (x:=eval _ _) (wpAny_mkInt {(N::M).toArray,n,0,s₁.toks,0,N,by rw [e7,dx,y.2.2.length];exact dd (ez q.2.2.1),rfl,H,rfl,by simp [seqIndex?],rfl,?_})}
  have D:∃S,Obj.mapSeq (λ xs=>xs.eraseIdxIfInBounds 0) {.type _,none,.seq (N::M).toArray n,#[]}={.type "list",none,.seq _ S,#[]}:={_,by
   show Obj.mk _ _ _ _=_;simp only [List.eraseIdxIfInBounds_toArray]
   rfl}
  refine D.elim λ S D=> ?_;have G:=qr (Obj.mapSeq _) H (by rw [D];rfl);rw [D] at G
  exact (B.good.upd (o':=.list p.2) (di.mp k).1 j z.1 (λ b q ζ=>nA _ _ (Ne.symm q)) ⟨_,G⟩ (by rw [←z.2.1];exact ⟨_,G⟩) λ st=>{z.2.1,M,⟨S,G⟩,aj.step B.good.ok st _ _ y.2.2}).elim λ g2 C=>{p.1,_,c₁,q.2.2.2,B.trans ⟨g2,C,rfl,rfl,rfl⟩,Rep.step B.good.ok C _ _ y.2.1}) λ ζ ζ x=>x)
end
section
variable{J:Jx}{ρ:En}{oa:Addr}{σ σ' TA:St}{c c' c₁:Cx}{s s' s₁ TB:Shared}{U:VS}{Q:VS}{L:List V->St->Prop}{p:Pr}{A:Around}{T E:VP}{v1:V}{o l u t:Value}{vE a b lE rE:Expr}{sp pos np apos:Pos}{f n:Str}{args es vals:List Expr}{x:X}{xs:List X}{i:Nat}{ls:List V}{L':Bool->St->Prop}
def hW(I:J.I ρ oa σ c s)(e:bo J.Γ i a=true)(d:J.ow=some i)(g:ay ρ i=some (.lst ls))(k:∀mvs,SeqAt s.heap oa "list" mvs->cy c s.heap ls mvs->T (.ref oa) s):wpAny M0 J.A (eval a J.env) T E s:=PM.hW I.h e d g k
def uP(d:bo J.Γ i a=true): [a].all noStar=true:=cz (λ a=> [a].all _=true) d λ ζ ζ ζ=>rfl
def Ax(h:gk aL J.κ f (.builtin "len")=true)(e:bo J.Γ i a=true)(d:J.ow=some i)(k:ay ρ i=some (.lst ls))(j:ls.length<=1000001)(q:Q (.int ls.length) σ):EV J (.Call (.Name f np) [a] [] pos) ρ oa σ Q U:=λ c s I=>af (eX F0 I.g.bC I.er h (bh (uP e) nofun (hW I e d k λ m r g=>call_len_list r.isList (by rw [e7,g.length];exact oH (ag j ⋯)) {_,σ,c,q,.toks I.g,_,by rw [e7,g.length]})))
def As(y:gk aL J.κ f (.type "tuple")=true)(h:bo J.Γ i a=true)(e:J.ow=some i)(B:ay ρ i=some (.lst ls))(z:ls.length<=1000001)(q:Q (.tup ls) σ):EV J (.Call (.Name f np) [a] [] pos) ρ oa σ Q U:=λ c s I=>af (eX F0 I.g.bC I.er y (bh (uP h) nofun (hW I h e B λ g C r=>call_tuple_list C.isList (λ v j=>
 have k:PK s {s with heap:=v.push _}:=⟨λ b o d=>b9 _ (j b o d),rfl,rfl⟩
 {_,σ,c,q,k.post I.g,_,g,rfl,λ m=>(I.g.low _ m).elim λ o d=>my _ (fY (j _ o d)),{0,dW _ rfl},k.bN I.g.ok r}) (by simp only [e7,r.length];exact ag z ⋯))))
def BU:la 20 (.lst ls) (.lst [])=some ls.isEmpty:=by cases ls<;>rfl
def DF{op:CmpOp}{b:Bool}{C:Pos}(h:op=if b then .Eq else .NotEq)(z:bo J.Γ i lE=true)(k:J.ow=some i)(B:ay ρ i=some (.lst ls))(q:Q (.bool (ls.isEmpty==b)) σ):EV J (.Compare lE [op] [.List [] C] pos) ρ oa σ Q U:=λ c s I=>
 A7 (hW I z k B λ D G F=>af (eM (af (Calls.spliced_nil (oZ (by
  have r:PK s {s with heap:=s.heap.push {cls:=.type "list",data:=.seq #[]}}:=.push s _ _;have v:=wY (G.elim λ n e=>⟨n,b9 _ e⟩) (r.bN I.g.ok F);have y:Rep KA Pw _ _ _ (.lst []) (.ref s.heap.objs.size):=wY (c:=c) ⟨0,dW _ rfl⟩ rfl;have d:∀m,m=(ls.isEmpty==b)->Vp Q c s _ _:=λ m e=>⟨_,σ,c,q,r.post I.g,congrArg _ e⟩;cases b with
  | true=>exact h▸Qd 20 (I.rm.u ⋯) BU v y PR W0 _ _ (d _ (by simp))
  | false=>exact h▸ra (n:=20) (λ g e=>ar e▸{19,rfl,Ga 19}) (I.rm.u ⋯) (.inl ⟨rfl,rfl⟩) BU v y PR W0 _ _ (d _ (by simp))) (m_ _)))))) (jl rfl)
def L6{w v:V}{j m:Value}{b:Bool}(z:bA Pw oa c s.heap w j)(d:fq [] v w=some b)(r:Rp c s.heap v m)(k:∀t,T (.bool b) {s with toks:=t}):wpAny M0 A (compareOp .In m j) T E s:=by
 cases z with
 | lst y e _ h g=>exact (vg (.inr rfl) (aO d aQ λ d=>aO d id λ d=>aO d aQ λ d=>aO d (λ d=>ab d λ ζ ζ d=>aQ d) λ d=>ab d λ ζ ζ d=>ab d λ ζ ζ d=>aQ d) r h g).1 (k _)
 | bH B y e _ h g=>exact aO d aQ λ d=>aO d aQ λ d=>aO d aQ λ d=>aO d (λ d=>ab d λ x q d=>bf (λ m=>wpAny M0 A (compareOp .In m _) T E s) q r λ t=>(BH h g (ar d) _ _).1 k) λ d=>ab d λ ζ ζ d=>ab d λ ζ ζ d=>aQ d
def DE(e:cq rE=true)(C:bo J.Γ i rE=true)(g:J.ow=some i)(h:EV J lE ρ oa σ (λ v σ=>∃w,ay ρ i=some w/\∃d,hF (fq [] v w)=some d/\Q d σ) U):EV J (.Compare lE [.In] [rE] pos) ρ oa σ Q U:=λ c s I=>
 A7 (az (h c s I) (λ m s₁ z=>z.casesOn λ v TA c₁ q p r=>q.elim λ w q=>q.2.elim λ d k=>ab k.1 λ b D B=>jK C |>.elim λ y z=>z.elim λ j z=>by
  rw [z.1];refine jE (I.next p).er z.2.1 z.2.2 q.1 λ F z=> ?_
  exact L6 (z.own g) D r λ t=>{_,TA,c₁,k.2,p.trans (.toks p.good),ar B▸rfl}) λ ζ ζ x=>x) (jl e)
def OC{e:Expr}(h:ET J e ρ oa σ (λ b σ=>L' (!b) σ) U):ET J (.UnaryOp .Not e pos) ρ oa σ L' U:=λ c s I=>isTrue_not (az (h c s I) (λ b s₁ z=>z.casesOn λ TA c₁ q p=>⟨TA,c₁,q,p⟩) λ ζ ζ x=>x)
def O1{t x y:Expr}(h:ET J t ρ oa σ (λ b σ=>cond b (EV J x ρ oa σ Q U) (EV J y ρ oa σ Q U)) U):EV J (.IfExp t x y pos) ρ oa σ Q U:=λ c s I=>IfExp_ (az (h c s I) (λ b s₁ z=>z.casesOn λ TA c₁ q p=>by
 cases b with
 | true=>exact EV.at q I p
 | false=>exact EV.at q I p) λ ζ ζ x=>x)
def O3{t x y:Expr}(h:ET J t ρ oa σ (λ b σ=>cond b (ET J x ρ oa σ L' U) (ET J y ρ oa σ L' U)) U):ET J (.IfExp t x y pos) ρ oa σ L' U:=λ c s I=>isTrue_IfExp (az (h c s I) (λ b s₁ z=>z.casesOn λ TA c₁ q p=>by
 cases b with
 | true=>exact ET.at q I p
 | false=>exact ET.at q I p) λ ζ ζ x=>x)
def EB.cmp{op:CmpOp}(d:cq rE=true)(v:∀{Q U},Wt J.cl (ev x ρ σ) Q U->EV J (.Compare lE [op] [rE] pos) ρ oa σ Q U):EB J x (.Compare lE [op] [rE] pos) ρ oa σ:=
 {v,λ h c s I=>ye d (az (v h c s I) (λ m s₁ z=>z.casesOn λ v TA c₁ q p r=>q.elim λ b y=>{b,by rw [y.1] at r;exact pq r,TA,c₁,y.2,p}) λ ζ ζ x=>x)}
structure BB(J:Jx)(a:Bool)(xs:List X)(es:List Expr)(ρ:En)(oa:Addr)(σ:St):Prop where
 v:∀{Q U pos},Wt J.cl (xD a xs ρ σ) Q U->EV J (.BoolOp (DC a) es pos) ρ oa σ Q U
 t:∀{Q U pos whole c s},Wt J.cl (xD a xs ρ σ) (Tq Q) U->J.I ρ oa σ c s->wpAny M0 J.A (isTrue (.BoolOp (DC a) es pos) J.env whole) (Bp Q c s) (XP J U) s
def BB.one{e:Expr}{r:Bool}(h:EB J x e ρ oa σ):BB J r [x] [e] ρ oa σ where
 v:=λ w c s I=>BoolOp_one (h.v w c s I)
 t:=λ w I=>by
  cases r with
  | false=>exact isTrue_or (az (h.t w _ _ I) (λ b s₁ z=>match b,z with
   | false,z=>isTrue_or_nil z
   | true,z=>z) λ ζ ζ x=>x)
  | true=>exact isTrue_and (az (h.t w _ _ I) (λ b s₁ z=>match b,z with
   | false,z=>z
   | true,z=>isTrue_and_nil z) λ ζ ζ x=>x)
end
end PM.N
end
section
open PySem PySem.W PyProof.Rows PySem.Calls PySem.SeqAt PySem.StrLaws
def PM.V.zm{a b:Bool}(h:PM.V.bool a=PM.V.bool b):a=b:=ar (congrArg PM.V.b? h)
namespace PM.N
section
variable{J:Jx}{ρ:En}{oa:Addr}{σ σ' TA:St}{c c' c₁:Cx}{s s' s₁ TB:Shared}{U:VS}{Q:VS}{L:List V->St->Prop}{p q:CmpOp}{A:Around}{T E:VP}{o l u t:Value}{vE a b lE rE e e2:Expr}{sp pos np apos:Pos}{f n:Str}{args es vals:List Expr}{x y:X}{xs:List X}{i:Nat}{L':Bool->St->Prop}
def Wt.bb{d:Cm}{r:Bool}(h:Wt d (xD r (x::y::xs) ρ σ) Q U):Wt d (ev x ρ σ) (Tq λ b σ=>Wt d (cond (b==r) (xD r (y::xs) ρ σ) (.ret (.ok (.bool b) σ))) Q U) U:=h.b.mono λ v σ h=>h.on λ b e h=>{b,V.o_ e,h}
theorem Vp.bool{P:Bool->St->Prop}{m:Value}(z:Vp (Tq P) c s m s₁):∃b,m= .bool b/\Bp P c s b s₁:=z.casesOn λ v TA c₁ q p r=>q.elim λ b y=>{b,pq (y.1▸r),TA,c₁,y.2,p}
def BB.more{r:Bool}(h:EB J x e ρ oa σ)(g:∀{σ},BB J r (y::xs) (e2::es) ρ oa σ):BB J r (x::y::xs) (e::e2::es) ρ oa σ where
 v:=λ {Q U pos} w c s I=>by
  have st:∀{b TA c₁ s₁},Wt J.cl _ Q U->Po c s _ _ _->Vp Q c s _ s₁:=λ {b TA c₁ s₁} w p=>{.bool b,TA,c₁,w.ok,p,rfl};cases r with
  | false=>exact BoolOp_or (az (h.v w.bb c s I) (λ m s₁ z=>z.bool.elim λ b z=>z.1▸z.2.casesOn λ TA c₁ w p=>o1 (match b,w with
   | false,w=>EV.at (g.v w) I p
   | true,w=>st w p)) λ ζ ζ x=>x)
  | true=>exact BoolOp_and (az (h.v w.bb c s I) (λ m s₁ z=>z.bool.elim λ b z=>z.1▸z.2.casesOn λ TA c₁ w p=>o1 (match b,w with
   | true,w=>EV.at (g.v w) I p
   | false,w=>st w p)) λ ζ ζ x=>x)
 t:=λ {Q U pos d c s} w I=>by
  have st:∀{b TA c₁ s₁},Wt J.cl (.ret (.ok (.bool b) _)) (Tq Q) U->Po c s TA c₁ _->Bp Q c s b s₁:=λ w p=>w.ok.elim λ b z=>{_,_,V.zm z.1▸z.2,p};have j:∀{TA c₁ s₁},Wt _ _ _ U->Po c s TA c₁ _->wpAny M0 J.A (isTrue (.BoolOp _ _ pos) _ d) (Bp Q c s) _ s₁:=λ w p=>az (g.t w (I.next p)) (λ ζ ζ z=>z.to p) λ ζ ζ x=>x;cases r with
  | false=>exact isTrue_or (az (h.t w.bb c s I) (λ b s₁ z=>z.casesOn λ TA c₁ w p=>match b,w with
   | false,w=>j w p
   | true,w=>st w p) λ ζ ζ x=>x)
  | true=>exact isTrue_and (az (h.t w.bb c s I) (λ b s₁ z=>z.casesOn λ TA c₁ w p=>match b,w with
   | true,w=>j w p
   | false,w=>st w p) λ ζ ζ x=>x)
def Vp.tb{b:Bool}(z:Vp (Tq L') c s (.bool b) s₁):Bp L' c s b s₁:=z.bool.elim λ d z=>by lia
noncomputable abbrev MU(z:X)(p q:CmpOp)(ρ:En)(va vb:V)(σ:St):Tree V:=aF (pR p va vb) λ t=>cond t (bT (ev z ρ σ) λ vc σ=>iY (hF (pR q vb vc)) σ) (.ret (.ok (.bool false) σ))
set_option tactic.hygienic true in
def sW{z:X}{H M:V}{m n:Value}{T:VP}(ic:∀{σ},EB J z e ρ oa σ)(I:J.I ρ oa σ c s)(B:Po c s TA c₁ s₁)(w:Wt J.cl (MU z p q ρ H M TA) Q U)(r1:Rp c₁ s₁.heap H m)(G:Rp c₁ s₁.heap M n)
 (S:∀s',Vp Q c s (.bool false) s'->T (.bool false) s') (W:∀s',wpAny M0 J.A (eval e J.env) (λ d g=>wpAny M0 J.A (compareOp q n d) (λ m k=>∃x,m= .bool x/\Vp Q c s m k) (XP J U) g) (XP J U) s'->T (.bool true) s'):wpAny M0 J.A (compareOp p m n) T E s₁:=w.on λ b P w=>vG B.good I.u (sU P _) r1 G λ x t ex=>by
 have ex:=V.zm ex;subst ex;have F:Po _ _ _ _ {s₁ with toks:=t}:=.toks B.good;have D:=B.trans F;cases b with
 | false=>exact S _ ⟨_,TA,c₁,w.ok,D,rfl⟩
 | true=>exact W _ (az (ic.v (Wt.b w) _ _ (I.next D)) (λ d g z=>z.casesOn λ vc h j w r r3=>w.o λ v C q=>ab C λ x Z C=>vG r.good I.u (sU Z _) (Po.rp (F.trans r) B.good.ok G) r3 λ y t' N=>{y,rfl,v,h,j,q,(D.trans r).trans (.toks r.good),ar C▸congrArg _ (V.zm N).symm}) λ ζ ζ x=>x)
def zC{f:V->V->St->Tree V}{T:Value->VP}(h:bE J [a,b] ρ oa σ (C2 J.cl f Q U) U)(I:J.I ρ oa σ c s)(k:∀m n TB TA c₁ d g,Wt J.cl (f d g TA) Q U->Po c s TA c₁ TB->Rp c₁ TB.heap d m->Rp c₁ TB.heap g n->T m n TB):wpAny M0 J.A (eval a J.env) (λ m s₁=>wpAny M0 J.A (eval b J.env) (T m) (XP J U) s₁) (XP J U) s:=
 az (h.seq I) (λ m s₁ z=>az z (λ n TB z=>z.casesOn λ j TA c₁ q p r=>r.two.elim λ d z=>z.elim λ g z=>k m n _ _ _ d g (by rw [z.1] at q;exact q) p z.2.1 z.2.2) λ ζ ζ x=>x) λ ζ ζ x=>x
def IU{z:X}(k:cq e=true)(r:∀{σ},EB J z e ρ oa σ)(h:bE J [lE,rE] ρ oa σ (C2 J.cl (MU z p q ρ) Q U) U):EV J (.Compare lE [p,q] [rE,e] pos) ρ oa σ Q U:=λ c s I=>
 Compare_chain (az (zC h I λ m n TB TA c₁ D F w v B C=>sW r I v w B C (λ s' z=>o1 z) λ s' z=>o1 (chain_last (az z (λ d g z=>az z (λ m j z=>z.elim λ x z=>z.2) λ ζ ζ x=>x) λ ζ ζ x=>x))) (λ a s₁ z=>chain_link z) λ ζ ζ x=>x) (m8 k)
def IV{z:X}(k:cq e=true)(r:∀{σ},EB J z e ρ oa σ)(h:bE J [lE,rE] ρ oa σ (C2 J.cl (MU z p q ρ) (Tq L') U) U):ET J (.Compare lE [p,q] [rE,e] pos) ρ oa σ L' U:=λ c s I=>
 isTrue_chain (az (zC (T:=λ a b TB=>wpAny M0 J.A _ (λ m g=>wpAny M0 J.A (truthy m) (λ t g=>if t then wpAny M0 J.A _ _ _ _ else Bp L' c s _ g) _ g) _ _) h I λ m n TB TA c₁ D F w v B C=>sW r I v w B C (λ s' z=>o1 z.tb) λ s' z=>o1 (test_last (az z (λ d g z=>az z (λ m j z=>z.elim λ x z=>z.1▸o1 (Vp.tb (z.1▸z.2))) λ ζ ζ x=>x) λ ζ ζ x=>x))) (λ a s₁ z=>test_link z) λ ζ ζ x=>x) (m8 k)
end
end PM.N
end
section
open PySem PySem.W PyProof.Rows PySem.Calls PySem.SeqAt PySem.StrLaws
namespace PM.N
section
variable{J:Jx}{ρ:En}{oa:Addr}{σ σ' TA:St}{c c' c₁:Cx}{s s' s₁ TB:Shared}{U:VS}{Q:VS}{L:List V->St->Prop}{A:Around}{T E:VP}{a b lE rE e:Expr}{pos np:Pos}{f n:Str}{args es vals:List Expr}{x y:X}{xs:List X}{i:Nat}{vs:List V}{ms:List Value}
def Ig(g:Gd aL Pw σ c s.heap){a:Addr}(d:s.heap.get? a=none):aL.lookup a=none:=by
 cases q:aL.lookup a with
 | none=>rfl
 | some o=>exact aQ (d.symm.trans (g.bC a o q))
def Lg{d g:Addr}(u:d=322∨d=606)(N:makesIn aL d=true)(hi:findIn aL (.ref d) "__init__"=some (some (.ref g)))(M:typeIn aL (.ref g)=some (.type "function"))(I:J.I ρ oa σ c s)(l:Po c s TA c₁ s₁)(r:cy c₁ s₁.heap vs ms)
 (w:Wt J.cl (bT (bp g (.ref TA.length::vs) (TA++ [.inst d [] []])) λ v σ'=>aF v.n? λ ζ=> .ret (.ok (.ref TA.length) σ')) Q U):wpAny M0 J.A (PySem.call (.ref d) ms) (Vp Q c s) (XP J U) s₁:=by
 refine su ?_;obtain ⟨k,H,F,tt,W⟩:=s₁;have X:aL.In k:=l.good.bC;refine make_core (makes_of X N) (looks_findIn X hi) (λ D=>bind_fn X _ M) (.inl rfl) ?_;have B:((k.push _).push (instObj d k.objs.size)).get? _=some emptyDict:=b9 _ (dW _ rfl);have S:k.get? _=none:=nu (kN _);have q:=Lh (o':=.inst d [] []) (a:=k.objs.size+1) (s':={(k.push _).push _,H,F,tt,W}) l.good {λ b o e=>b9 _ (b9 _ e),rfl,rfl} S (aE _) {_,(by heap_get)} ⟨_,B⟩ λ ζ=>{u,Bj _,(by heap_get),[],{[],0,B,trivial,kO,not_modules F0 X},rfl};have p:(c₁.ν++ [k.objs.size+1])[TA.length]? =_:=l.good.ln▸L0
 exact w.b.call.elim λ r2 h=>(J.BK h.1).c (J.A.under _) J.l _ _ _ {I.rm.c.hd,(by unfold Around.under;simp only [I.rm.c.fr];rfl),E7 (j:=1) (m:=60) ⋯ I.rm.dp,E7 (j:=1) (m:=400) ⋯ I.rm.un} ((I.next l).next q).fo q.good {_,_,rfl,⟨_,rfl,p⟩,q.E5 l.good.ok r} _ (λ m s' z=>vT.casesOn z λ v σ' c' G C Z=>(h.2.o G).on λ ζ P w=>by
  cases V.AI P
  exact {(show m= .none from Z),_,σ',c',w.ok,(l.trans q).trans C,_,rfl,C.st.grow _ _ p}) λ e s' z=>XP.call ((I.next l).next q) z λ ζ ζ e=>h.2.x e
def DG{d g:Addr}(j:d=322∨d=606)(t:args.all noStar=true)(m:iT aL J.κ f (.ref d)=true)(o:keepIn aL (.ref d)=true)(p:makesIn aL d=true)(hi:findIn aL (.ref d) "__init__"=some (some (.ref g)))(l:typeIn aL (.ref g)=some (.type "function"))
 (h:bE J args ρ oa σ (λ vs σ=>Wt J.cl (bT (bp g (.ref σ.length::vs) (σ++ [.inst d [] []])) λ v σ'=>aF v.n? λ ζ=> .ret (.ok (.ref σ.length) σ')) Q U) U):EV J (.Call (.Name f np) args [] pos) ρ oa σ Q U:=λ c s I=>af (jn F0 I.g.bC I.er m (fu t (λ h X=>l_ o h X) (a6.mono (λ ζ ζ x=>x) (λ ms s₁ z=>z.casesOn λ vs TA c₁ q k r=>{k.good.bC,Lg j p hi l I k r q}) (h.seq I))))
def Iw{v:V}{m:Value}{l:List V}{j:List (Str×V)}(I:J.I ρ oa σ c s)(p:Po c s TA c₁ s₁)(G:rq pairOf l=some j)(z:(j.map (·.1)).Nodup/\(j.map (·.1)).length<=1000)(F:v.l? =some l)(r:Rp c₁ s₁.heap v m)(q:Q (.bH (j.map (·.1)) (j.map (·.2))) TA):wpAny M0 J.A (PySem.call (.type "dict") [m]) (Vp Q c s) (XP J U) s₁:=
 eG (λ m=>wpAny M0 J.A (PySem.call _ [m]) _ _ _) F r λ a P ζ t M=>t.elim λ n t=>(Dv G M).elim λ o i=>by
  have d:=I.next p;have h:o.length=(j.map (·.1)).length:=by simpa using i.1.length
  have k:=List.map_fst_zip (b1 h.symm);refine rN d.rm.hd t i.2 (k.symm▸z.1) (by rw [A_,h,uY];exact ag z.2 ⋯) λ C N D H=> ?_;have B:PK _ {s₁ with heap:=C,toks:=N}:=⟨H,rfl,rfl⟩;have u:=DictAt.of D (not_modules F0 d.g.bC);rw [k,Bg (b1 h)] at u;exact ⟨_,TA,c₁,q,p.trans (B.post p.good),_,o,rfl,d.no (aE _),u,B.bN p.good.ok i.1⟩
def zh(B:args.all noStar=true)(t:gk aL J.κ f (.type "dict")=true)(h:bE J args ρ oa σ (Pq (.ek .dict) Q) U):EV J (.Call (.Name f np) args [] pos) ρ oa σ Q U:=λ c s I=>af (eX F0 I.g.bC I.er t (bh B nofun (a6.mono (λ ζ ζ x=>x) (λ ms TB z=>z.casesOn λ vs TA c₁ q C r=>q.elim λ v q=>fJ (λ ms=>wpAny M0 J.A (PySem.call _ _) _ _ _) q.1 r λ x m d D=>ab d λ l u d=>ab d λ p g d=>aR d λ o d=>ab g λ F k g=>by
 have g:=ar g;subst g
 exact Iw I C k o u D (ar d▸q.2)) (h.seq I))))
end
section
variable{J:Jx}{ρ:En}{oa:Addr}{σ σ' TA:St}{c c' c₁:Cx}{s s' s₁ TB:Shared}{U:VS}{Q:VS}{L:List V->St->Prop}{A:Around}{T E:VP}{a b lE rE e:Expr}{pos np:Pos}{f n:Str}{args es vals:List Expr}{x y:X}{xs:List X}{i:Nat}{vs:List V}{ms:List Value}{out rest:Str}{ps:List (Option Str)}
def RR(v:V)(σ:St)(d:V)(σ':St):Prop:=d=v/\σ'=σ
def Parts(J:Jx)(ρ:En)(oa:Addr)(σ:St)(es:List Expr)(vs:List V):Prop:=es.length=vs.length/\∀p∈es.zip vs,EV J p.1 ρ oa σ (RR p.2 σ) NX
def yA:∀{ps} {es} {vs} {c} {s} {out rest},J.I ρ oa σ c s->ov ps es=true->Parts J ρ oa σ (hU es) vs->oE ps vs=some rest->(out++rest).length<=cY->
 (∀t c' s',Po c s σ c' s'->T (.str (out++rest) t) s')->wpAny M0 J.A (joinParts out (evalEach es J.env)) T E s:=by
 intro ps
 induction ps with
 | nil=>
  intro es vs c s out rest I o d u C k;cases es with
  | cons _ _=>exact c4 o
  | nil=>
   cases vs with
   | cons _ _=>exact nomatch d.1
   | nil=>
    have e:=ar u;subst e;exact joinParts_nil (k _ _ _ (.toks I.g)) (ag C cN)
 | cons p ps ih=>
  intro es vs c s out rest I o d u C k;cases es with
  | nil=>exact c4 o
  | cons e es=>
   have l:∀{y D} {g} {c₁} {s₁:Shared},Parts J ρ oa σ (hU es) g->oE ps g=some D->ap y D=rest->Po c s σ _ _->∀(G),(out++y).length<=sizeLine/\wpAny M0 J.A (joinParts (out++y) _) T E {s₁ with toks:=G}:=λ {y D g c₁ s₁} d B M N G=>by
    have W:Po _ _ σ c₁ {s₁ with toks:=G}:=.toks N.good;subst M;rw [EI] at C k;exact ⟨ag (ag (by rw [strLen_append _ D];exact ed ..) C) cN,ih (I.next (N.trans W)) (an o).2 d B C λ t c' s' p=>k t c' s' ((N.trans W).trans p)⟩
   cases p with
   | some x=>
    exact uf (λ e=>Parts J ρ oa σ (hU (e::es)) vs->wpAny M0 J.A (joinParts out (evalEach (e::es) _)) T E s) (an o).1 (λ kk pos d=>ab u λ D B F=>joinParts_cons (oM λ t t'=>l d B (ar F) (.refl I.g) _)) d
   | none=>
    refine Jn (λ e=>Parts J ρ oa σ (hU (e::es)) vs->wpAny M0 J.A (joinParts out (evalEach (e::es) _)) T E s) (an o).1 (λ e0 cv sp pos S d=> ?_) d;rw [bq (an S).1,sH.mp (an S).2];cases vs with
    | nil=>exact nomatch d.1
    | cons v g=>
     have P:Parts J ρ oa σ _ g:={sx d.1,λ p m=>d.2 p (.tail _ m)};refine joinParts_cons (FormattedValue_plain (az (d.2 _ (.head _) c s I) (λ H s₁ z=>z.casesOn λ v' TA c₁ q p r=> ?_) λ e s' x=>XP.casesOn x λ ζ ζ ζ ζ ζ ζ ζ h ζ ζ ζ ζ ζ ζ ζ=>h.elim));have M:=q.1;have Z:=q.2;subst M Z
     exact ab u λ y j u=>ab u λ D B F=>aO j (λ j=>bf (λ H=>wpAny M0 J.A (formatField H _) _ E _) j r λ t=>formatField_str (λ t' G=>l P B (ar F) p G) (by
      refine ag ?_ (ag C cN)
      simp [←ar F,tV,strLen_append];lia)) λ j=>ab j λ i hi j=>aR j λ hs j=>cf (λ H=>wpAny M0 J.A (formatField H _) _ E _) hi r λ t=>formatField_int_small (AM hs) (l P B ((ar j).symm▸ar F) p _)
def BM(d:ov ps es=true)(g:Parts J ρ oa σ (hU es) vs)(h:oE ps vs=some rest)(j:rest.length<=cY)(k:2<=es.length)(q:Q (.str rest) σ):EV J (.JoinedStr es pos) ρ oa σ Q U:=λ c s I=>by
 cases es with
 | nil=>contradiction
 | cons a es=>cases es with
  | nil=>exact absurd k (FX 1)
  | cons b r=>exact JoinedStr_many (yA I d g h (by rw [rY];exact j) λ t c' s' p=>by
   rw [rY]
   exact {_,σ,c',q,p,⟨_,rfl⟩})
end
section
variable{J:Jx}{ρ:En}{oa:Addr}{σ σ' TA:St}{c c' c₁:Cx}{s s' s₁ TB:Shared}{U:VS}{Q:VS}{A:Around}{T E:VP}{a b lE rE e:Expr}{pos np:Pos}{f n:Str}{args es vals:List Expr}{v1 v2 v:V}{m:Value}
def Li{d:Nat}{l:List Env}{n:Value}(g:Gd aL Pw σ c s.heap)(I:Rm A l d)(h:prim .sj σ [v1,v2]=some v)(q1:Rp c s.heap v1 m)(q2:Rp c s.heap v2 n)(k:∀t,v= .bool false->T (.bool false) {s with toks:=t}):wpAny M0 A (compareOp .NotEq m n) T E s:=ab h λ bb hn Z=>by
 have F:=I.u (n:=22) (by simp);have y:=fZ (ed _ _) F;refine ab hn λ i hi h2=>ab h2 λ o ho h3=>ab h3 λ q hq r=>j5 (λ a=>wpAny M0 A (compareOp _ a n) T E s) g q1 (by unfold oC;rw [hi];show ae σ[i]? _=_;rw [ho];exact hq) λ aa B=>aO r (λ r=>ab r λ ζ D u=>aR u λ G u=> ?_) λ r=>ab r λ p D u=>ab u λ q' G h7=>aR h7 λ hc h8=> ?_
 ·cases V.RM D;cases sH.mp G;have W:∀{x n},s.heap.get? x=some {.type _,none,.dict #[] n,#[]}->s.heap.DictOf (strKind PR W0) x []:=λ eo=>{_,_,_,eo,⟨rfl,rfl,rfl⟩,rfl,λ ζ h=>by simp at h,Pairs.nil,kO};exact q2.elim λ P z=>z.2.2.elim λ n' z2=>B.elim λ n B=>z.1▸keq_ne B.2 z2.2 (W B.1) (W z2.1) y (λ ζ=> .nil) (k _ (ar Z▸ar u▸rfl))
 ·cases V.RL D;subst G;refine q2.elim λ P q=>q.elim λ kb q=>q.elim λ m' q=>q.elim λ H q=>q.elim λ e j=> ?_;subst e;obtain ⟨x1,C,M,kk,m,e1,I⟩:=B.lg;obtain ⟨x2,S,N,kk',m2,e2,L⟩:=x3.lg (show x3 _ _ c.H _ P (some p) from ⟨kb,m',H,j.2.2.1,j.2.2.2.1,j.2.2.2.2.1,j.2.2.2.2.2⟩);subst e1 e2;rw [hc.1] at C;exact DJ C.typeIs S.typeIs y (Dc M N (fZ (ee (by simp) _) F) C S (Ga 20 _ _ p.2 _ m m2 (fZ (b1 (Nat.add_assoc _ 1 20)) (fZ (ee (by simp) _) F)) hc.2 I L) λ t=>k t (ar Z▸ar h8▸rfl))
def DH(d:cq rE=true)(h:bE J [lE,rE] ρ oa σ (Pq .sj Q) U):EV J (.Compare lE [.NotEq] [rE] pos) ρ oa σ Q U:=λ c s I=>
 A7 (ou h I λ m n TB c₁ v1 v2 z j l=>z.casesOn λ TA v g i k=>Li i.good I.rm g j l λ t e=>k _ _ (.toks _ _) (e▸rfl)) (jl d)
def DK{k:Str}{i j:Int}{ms:List Value}(I:J.I ρ oa σ c s)(h:Po c s TA c₁ s₁)(r:cy c₁ s₁.heap [.str k,.int i,.int j] ms)(q:Q (.exc k i j) TA):wpAny M0 J.A (PySem.call (.ref 64) ms) (Vp Q c s) E s₁:=by
 obtain ⟨mw,_,e,⟨G,L⟩,mr,_,M,⟨F,N⟩,mc,_,P,⟨D,S⟩,W⟩:=r;subst e L M N P S W;obtain ⟨g,gg,H,tt,oo⟩:=s₁;have X:aL.In g:=h.good.bC;refine Z0.fB.look.elim λ oc z=>z.elim λ od z=>z.elim λ sl B=> ?_;have p:g.get? _=none:=nu (kN _)
 refine HK (X _ _ rS) (looks_findIn X Z0.li) (X _ _ B) (by
  have:=Z0.tf;unfold typeIn at this
  dsimp only at this
  rw [B] at this
  exact ar this) (by refine (?_:3<=sizeLine);decide) ?_
 have t:∀b o,g.get? b=some o->((g.push {cls:=.type "tuple",data:=.seq [.str k G,.int i F,.int j D].toArray}).push {cls:=.ref 64,data:=.fields #[.ref g.objs.size,.none,.none,.none,.bool false,.none]}).get? b=some o:=λ b o e=>b9 _ (b9 _ e);refine EF F0 Z0 (λ b o e=>t b o (X b o e)) (ag (kcj (ed J.A.depth (4*J.d)) (by decide:59<=60)) I.rm.dp:J.A.depth+59<=_) (Ig h.good p) {_,_,by heap_get,rfl,rfl} λ s' u x=>x.casesOn λ d us y g1 g2 g3 g4 g5 g6 g7 g8 g9=>{rfl,?_};have C:∀a,g.get? a=none->a∉c₁.H:=λ a e m=>(h.good.low a m).elim λ o Z=>aQ (e.symm.trans Z)
 exact {.exc k i j,TA,c₁,q,h.trans (({λ b o e=>g7 b o (λ q=>aQ (p.symm.trans (q▸e))) (t b o e),g8,g9}:PK ⟨g,gg,H,tt,oo⟩ s').post h.good),.mk (g.objs.size+1) d us y G u F D .none (C _ p) g1 g6 (C _ (by
  cases z:g.get? d with
  | none=>rfl
  | some o=>exact aQ (g5.symm.trans (t d o z)))) (by lia) .no}
def HJ{vs:List V}(h:prim (.oB 64) σ vs=some v):∃w x y,vs= [.str w,.int x,.int y]/\V.exc w x y=v:=(Oz h).elim λ a z=>z.elim λ b z=>z.elim λ d z=>ab z.2 λ w g h=>ab h λ x i h=>ab h λ y j h=>{w,x,y,by rw [z.1,V.jW g,V.o6 i,V.o6 j],ar h}
def yO(k:args.all noStar=true)(i:iT aL J.κ f (.ref 64)=true)(j:keepIn aL (.ref 64)=true)(h:bE J args ρ oa σ (Pq (.oB 64) Q) U):EV J (.Call (.Name f np) args [] pos) ρ oa σ Q U:=λ c s I=>af (jn F0 I.g.bC I.er i (fu k (λ h X=>l_ j h X) (a6.mono (λ ζ ζ x=>x) (λ l s₁ z=>z.casesOn λ o TA c₁ q g r=>{g.good.bC,q.elim λ v q=>(HJ q.1).elim λ a z=>z.elim λ b z=>z.elim λ d z=>DK I g (z.1▸r) (z.2▸q.2)}) (h.seq I))))
end
inductive Mx(A:Around)(TF:Expr)(l:List V)(c:Cx)(s:Shared)(it:Value)(s':Shared):Prop
 | mk (Ia:Addr) (wr fp:List Addr) (TC:List Value) (l0:List V) (Val:Nat->Heap->Value->Heap->Prop) (St:Nat->Heap->Prop) (pk:PK s s') (ei:it= .ref Ia) (src:Src A Ia wr fp TF l TC l0 Val St) (st0:St 0 s'.heap) (fr:∀b∈wr,s.heap.get? b=none) (hfp:∀b∈fp,b∈wr∨(b∉c.H/\∃T mvs,SeqAt s.heap b T mvs)) (rr:cy c s.heap l0 TC):Mx A TF l c s it s'
section
variable{A:Around}{TF:Expr}{l:List V}{c:Cx}{s:Shared}{T E:VP}{v:V}{m:Value}{a b:Addr}{mvs:List Value}
def zE{x:String}(f:a∉c.H)(g:SeqAt s.heap a x mvs){wr:List Addr}(d:∀b,b∈(wr++ [a])->b∈wr∨b=a):∀b∈wr++ [a],b∈wr∨(b∉c.H/\∃T mvs,SeqAt s.heap b T mvs):=λ b m=>(d b m).imp id λ (e:b=a)=>e▸⟨f,x,mvs,g⟩
def mX(s:Shared):∀b∈([s.heap.objs.size]:List Addr),s.heap.get? b=none:=λ b m=>cu.mp m▸aE _
def pY{x:String}(d:SeqAt s.heap a x mvs):a<s.heap.objs.size:=fY d.choose_spec
def Lm(h:A.handled=none)(i:plainT TF=true)(e:itemsOf v=some l)(r:Rp c s.heap v m)(k:∀p s',Mx A TF l c s p s'->T p s'):wpAny M0 A (pyIter m) T E s:=
 have j {x:String} {a:Addr} {mvs:List _} (f:a∉c.H) (d:SeqAt _ a x mvs):=zE f d (wr:= [s.heap.objs.size]) λ b m=>(e6.mp m).imp id cu.mp
 aO e (λ e=>d6 (λ m=>wpAny M0 A _ T E s) e r λ a mvs f d g=>wpAny_pyIter_tuple d.dG (k _ _ {s.heap.objs.size,_,_,mvs,_,_,_,.push s _ _,rfl,src_tuple h (jG (pY d)) g.length i,{{_,dW _ rfl,rfl,rfl},d.elim λ n e=>{_,b9 _ e,rfl,n,rfl}},mX s,j f d,g})) λ e=>
 aO e (λ e=>eG (λ m=>wpAny M0 A _ T E s) e r λ a mvs f d g=>wpAny_pyIter_list d.isList (k _ _ {s.heap.objs.size,_,_,mvs,_,_,_,.push s _ _,rfl,src_list h (jG (pY d)) g.length i,{{_,dW _ rfl,rfl,rfl},d.elim λ n e=>{_,b9 _ e,rfl,n,rfl}},mX s,j f d,g})) λ e=>
 ab e λ x q e=>bf (λ m=>wpAny M0 A _ T E s) q r λ t=>by
  have e:=ar e;subst e;by_cases o:x.cps.all (· <128)=true
  ·exact wpAny_pyIter_ascii o (k _ _ {s.heap.objs.size,_,_,[],[],_,_,.push s _ _,rfl,zL h i,{_,dW _ rfl,rfl,rfl},mX s,λ b m=> .inl m,rfl})
  ·exact wpAny_pyIter_wide (Eq.symm ((λ {a b}=>Bool.not_not_eq.mp) λ a=>o (id (Eq.symm a)))) (k _ _ {s.heap.objs.size,_,_,[],[],_,_,.push s _ _,rfl,CY h i,{_,dW _ rfl,rfl,rfl},mX s,λ b m=> .inl m,rfl})
def AJ(j:A.handled=none)(p:plainT TF=true){a b:Int}{t u w:Tok}{tk n:Nat}(d:idx a=true)(f:idx b=true)(g:b-a<=1000000)(h:n=(b-a).toNat)(k:∀i s',Mx A TF (cp a n) c s i s'->T i s'):wpAny M0 A (pyIter (.ref s.heap.objs.size)) T E {s with heap:=s.heap.push {cls:=.type "range",data:=.fields #[.int a t,.int b u,.int 1 w]},toks:=tk}:=by
 refine wpAny_pyIter_range (.new _ a b 1 t u w) (kq d f g).1 (k _ _ {_,_,_,[],[],_,_,{λ b o e=>b9 _ (b9 _ e),rfl,rfl},rfl,src_range j p,?_,λ q m=>by rw [cu.mp m,xo];exact nu (kN _),λ b m=> .inl m,rfl});have z:=dW (s.heap.push {cls:=.type "range",data:=.fields #[.int a t,.int b u,.int 1 w]}) (o:={cls:=.type "range_iterator",data:=.fields #[rawInt a,rawInt (Builtin.Range.rangeSize a b 1),rawInt 1]}) rfl;rw [(kq d f g).2,←h] at z;rw [(kq d f g).2,←h]
 simpa using z
def t7(s:Shared):∀b∈([s.heap.objs.size+1,s.heap.objs.size]:List Addr),s.heap.get? b=none:=λ b m=>(a0.mp m).elim (λ e=>e▸nu (kN _)) (mX s b)
def Ln(B:A.handled=none){es:List Expr}{I:Nat}{L:Pos}(e:vd v=some l)(r:Rp c s.heap v m)(k:∀G s',Mx A (.Tuple es I L) (e8 0 l) c s G s'->T G s'):wpAny M0 A (PySem.call (.type "enumerate") [m]) (λ x s=>wpAny M0 A (pyIter x) T E s) E s:=
 aO e (λ e=>eG (λ m=>wpAny M0 A (PySem.call _ [m]) _ E s) e r λ a mvs J q H=>call_enumerate_list q.isList λ u f g C j=>FU f (k _ _ {_,_,_,mvs,_,_,_,.of j,rfl,pe (Draws.list (A:=A.in1) B _ a (jG (pY q)) _) (Bj _) (λ m=>(a0.mp m).elim (λ m=>Bj _ m) λ m=>FX _ (iC (cu.mp m▸pY q))) (List.mem_cons_self) (by simpa using H.length) (λ i h st=>And.elim (λ st ζ=>Exists.elim st λ o z=>{o,_,z.1,z.2.1,⋯}) st) λ P c i v u x D r p=>aj.at r D (by simpa using p),{{_,by simpa using f},g,q.elim λ n e=>{_,j _ _ e,rfl,n,rfl}},t7 s,zE J q (wr:= [s.heap.objs.size+1,s.heap.objs.size]) λ b m=>(e6.mp m).imp id cu.mp,H})) λ e=>
 ab e λ x D e=>bf (λ m=>wpAny M0 A (PySem.call _ [m]) _ E s) D r λ t=>by
  have e:=ar e;subst e;refine call_enumerate_str λ u f g C j=> ?_;unfold strIterType at g
  split at g
  ·exact FU f (k _ _ {_,_,_,[],[],_,_,.of j,rfl,pe (Draws.strAscii (A:=A.in1) B _ x t) (Bj _) (by simp) (by simp) (iw x).symm (λ i h st=>Exists.elim st λ o z=>{o,_,z.1,z.2.1,⋯}) λ P c i v u y F ζ p=>lK F p,{{_,by simpa using f},g},t7 s,λ b m=> .inl m,rfl})
  ·exact FU f (k _ _ {_,_,_,[],[],_,_,.of j,rfl,pe (Draws.strWide (A:=A.in1) B _ x t) (Bj _) (by simp) (by simp) (iw x).symm (λ i h st=>Exists.elim st λ o z=>{o,_,z.1,z.2.1,⋯}) λ P c i v u y F ζ p=>lK F p,{{_,by simpa using f},g},t7 s,λ b m=> .inl m,rfl})
end
inductive Sd(J:Jx)(TF:Expr)(L:List V->St->Prop)(c:Cx)(s:Shared)(it:Value)(s':Shared):Prop
 | mk (l:List V) (TA:St) (c₁:Cx) (s₁:Shared) (q:L l TA) (len:l.length<=1000000) (p:Po c s TA c₁ s₁) (mx:Mx J.A TF l c₁ s₁ it s'):Sd J TF L c s it s'
def IT(J:Jx)(iter b:Expr)(ρ:En)(d:Addr)(σ:St)(L:List V->St->Prop)(U:VS):Prop:=∀c s,J.I ρ d σ c s->wpAny M0 J.A (eval iter J.env) (λ x a=>wpAny M0 J.A (pyIter x) (Sd J b L c s) (XP J U) a) (XP J U) s
def P4(c:It):Prop:=∀{J a b d f e L U},pS J.S c a b=true->Wt J.cl (i3 c d e) L U->IT J a b d f e L U
section
variable{x y:X}
def F5(g:P1 x):P4 (.val x):=λ f h c s I=>az ((g (an f).2).v h.b c s I) (λ m d z=>z.casesOn λ v a b q p r=>q.on λ l e q=>q.g λ n q=>Lm I.rm.hd (an f).1 e r λ j k i=>⟨l,a,b,d,q.ok,n,p,i⟩) λ ζ ζ x=>x
def wG{a}{n}(h:n<=1000000):(cp a n).length<=1000000:=by
 unfold cp;rw [cJ,FQ];exact h
def BJ(E:P1 x):P4 (.kr x):=λ {J f l A z B L U} D h=>ej (λ f=>IT J f l A z B L U) D λ n M args u G C i=>c6 (λ args=>IT J (.Call _ args [] u) l A z B L U) i λ a i c s I=>af (eX F0 I.g.bC I.er C (bh ((nc _).trans (an i).1) nofun (az ((E (an (an i).2).2).v h.b c s I) (λ m d w=>w.casesOn λ v g j q p r=>q.on λ k e q=>q.g λ b q=>cf (λ m=>wpAny M0 J.A (PySem.call _ [m]) (λ x d=>wpAny M0 J.A (pyIter x) _ _ d) _ _) e r λ t=>call_range_1 (AJ I.rm.hd (an (an i).2).1 rfl b.1 (by lia) (by simp) λ H N F=>{_,g,j,d,q.ok,wG (by lia),p,F})) λ ζ ζ x=>x)))
def BI(T:P1 x)(W:P1 y):P4 (.lS x y):=λ {J d z H F M L U} S h=>ej (λ d=>IT J d z H F M L U) S λ n np args B c1 N j=>qP (λ args=>IT J (.Call _ args [] B) z H F M L U) j λ a b j c s I=>by
 have C:=an (an (an j).2).2;exact af (eX F0 I.g.bC I.er N (bh (by simp only [sy,(an j).1];exact (nc _).trans (an (an j).2).1) nofun (az ((T (an C.2).1).v h.b c s I) (λ m e w=>w.casesOn λ v D E q p r=>az ((W (an C.2).2).v q.b _ _ (I.next p)) (λ A o w=>w.casesOn λ v2 g l q G r2=>q.on λ i P q=>q.on λ k Q q=>q.g λ b q=>cf (λ m=>wpAny M0 J.A (PySem.call _ [m,A]) _ _ _) P (G.rp p.good.ok r) λ t=>cf (λ A=>wpAny M0 J.A (PySem.call _ [.int i t,A]) (λ x e=>wpAny M0 J.A (pyIter x) _ _ e) _ _) Q r2 λ u=>call_range_2 (AJ I.rm.hd C.1 b.1 b.2.1 b.2.2 rfl λ it s' Z=>{_,g,l,o,q.ok,wG (Int.toNat_le.mpr b.2.2),p.trans G,Z})) λ ζ ζ x=>x) λ ζ ζ x=>x)))
def F6(D:P1 x):P4 (.nP x):=λ {J f d z t A L U} C h=>ej (λ f=>IT J f d z t A L U) C λ n M args u F B i=>c6 (λ args=>IT J (.Call _ args [] u) d z t A L U) i λ a i=>eD (λ d=>IT J _ d z t A L U) (an (an i).2).1 λ G k P ζ c s I=>af (eX F0 I.g.bC I.er B (bh ((nc _).trans (an i).1) nofun (az ((D (an (an i).2).2).v h.b c s I) (λ m o w=>w.casesOn λ v g j q p r=>q.on λ l e q=>q.g λ b q=>Ln I.rm.hd e r λ H N E=>{_,g,j,o,q.ok,ag (b1 nO) b,p,E}) λ ζ ζ x=>x)))
end
section
variable{J:Jx}{ρ ρ':En}{oa TG:Addr}{σ σ':St}{c c':Cx}{s s':Shared}
def Jx.I.qt{a}(I:J.I ρ oa σ c s)(q:Qt c s.heap a):J.I ρ oa σ c {s with heap:=a}:=I.next ⟨I.g.quiet Sh q,q.st,rfl,rfl,rfl⟩
def Jx.D(J:Jx)(oa:Addr):List Addr:=(J.K [] oa).D J.fl
def xB{iter}{env}(h:cq iter=true)(x):foldedSetIterable iter env x=pure x:=by cases iter<;>first | rfl | exact c4 h
end
section
variable{J:Jx}{ρ ρ':En}{oa TG b:Addr}{σ:St}{c:Cx}{s:Shared}{h':Heap}{t i:Nat}{y:Str}{m m':Str->Option Value}{mv:Value}{v:V}
def Jx.I.put(I:J.I ρ oa σ c s)(u:dE c s.heap h' b)(l:J.s₀.heap.get? b=none)(n:∃o,h'.get? b=some o/\(b∈c.Fs->x4 o))(x:NB Pw J.env J.Γ J.ow TG ρ' c h')
 (p:J.fl=true->∀y d,J.env.cells.lookup y=some d->J.env.kindOf y=some .cell->∃z,h'.IsCell d z) (B:∀j,J.ow=some j->(ay ρ' j).isSome=true->TG≠J.env.locals) (C:J.fl=true->∀j,J.ow=some j->(ay ρ' j).isSome=true->J.s₀.heap.get? TG=none/\∀y d,J.env.cells.lookup y=some d->TG≠d) (h:∀a∈J.D TG,a∈c.H/\a∉c.S):J.I ρ' TG σ c {s with heap:=h',toks:=t}:=
 have z:=I
 {{I.rm,I.fo.off u.bx n,I.g.off u,{I.er.fk,I.er.kn,I.er.gl,I.er.bl,λ y r=>(I.er.cx y r).elim λ d q=>q.elim λ o q=>(u.there d o q.2).elim λ A k=>⟨d,A,q.1,k⟩,I.er.nl,x},z.h.hl},z.st.off u l,z.gens,z.os,z.ok₀,z.fs,z.sub,z.dl,λ f y d e g=>have q:=z.qE f y d e g;{q.1,q.2.1,q.2.2.1,q.2.2.2.1,p f y d e g},z.xS,z.cl,z.xT,B,C,h,z.low₀}
inductive NP(J:Jx)(oa:Addr)(c:Cx)(s:Shared)(m:Str->Option Value)(y:Str)(mv:Value)(s':Shared):Prop
 | mk (h':Heap) (t:Nat) (b:Addr) (m':Str->Option Value) (es:s'={s with heap:=h',toks:=t}) (u:dE c s.heap h' b) (bD:b=J.env.locals∨(J.fl=true/\∃x,J.env.cells.lookup x=some b)) (fr:J.s₀.heap.get? b=none) (hb:∃o,h'.get? b=some o/\(b∈c.Fs->x4 o)) (ns:h'.Ns J.env.locals m') (at_:At J.env c h' m' y mv) (bx:∀x mv',x≠y->At J.env c s.heap m x mv'->At J.env c h' m' x mv')
  (hc:J.fl=true->∀y cc,J.env.cells.lookup y=some cc->J.env.kindOf y=some .cell->∃z,h'.IsCell cc z):NP J oa c s m y mv s'
def AA{M}{A}{E}{T}(I:J.I ρ oa σ c s)(h:J.κ.lookup y=some .local∨(J.fl=true/\J.κ.lookup y=some .cell))(B:s.heap.Ns J.env.locals m)(k:∀s',NP J oa c s m y mv s'->T () s'):wpAny M A (storeName J.env y mv) T E s:=by
 have z:=I;have u:J.env.kindOf y=J.κ.lookup y:=by unfold Env.kindOf;rw [I.er.kn]
 refine h.elim (λ h=> ?_) λ h=> ?_
 ·refine wpAny_storeName_local (u.trans h) B (λ h' H r=>k _ {h',_,J.env.locals,_,rfl,{z.dl.2,I.er.nl,λ a q=>r.2 a q,H.elim λ o q=>q.elim λ ζ q=>q.elim λ ζ q=>⟨o,q.1⟩},.inl rfl,z.dl.1,H.elim λ o q=>q.elim λ S q=>q.elim λ n q=>{o,q.1,λ ζ=>⟨S,n,q.2.1⟩},H,.loc (u.trans h) (if_pos rfl),λ x L Q a=>a.to (if_neg Q).trans λ g o l e U P N=>{(r.2 g (z.cl x g l)).trans e,P,N},λ f x g F G=>(z.qE f x g F G).2.2.2.2.elim λ w C=>{w,C.sameBut r (z.cl x g F)}}) (by rw [I.er.fk];rfl)
 ·have p:=u.trans h.2;refine (nB.mp (z.xS h.1 y p)).elim λ g d=> ?_;have q:=z.qE h.1 y g d p
  exact q.2.2.2.2.elim λ w C=>wpAny_storeName_cell I.er.fk p d C λ h' j r=>k _ {h',s.toks,g,m,rfl,{q.2.1,q.2.2.2.1,λ a q=>r.2 a q,j.elim λ o q=>⟨o,q.1⟩},.inr ⟨h.1,y,d⟩,q.1,j.elim λ o w=>{o,w.1,λ m=>absurd m q.2.2.1},B.sameBut r (Ne.symm (z.cl y g d)),.cell (.inl p) g d j q.2.2.2.1 q.2.2.1,λ x L Q a=>a.to id λ D o l e U P N=>{(r.2 D λ e=>Q (z.xT h.1 x y g (e▸l) d)).trans e,P,N},λ f x D F G=>by
   by_cases e:D=g
   ·exact {_,e▸j}
   ·exact (z.qE f x D F G).2.2.2.2.elim λ w C=>{w,C.sameBut r e}}
def w0{h}{w}(u:dE c h h' b)(a:oa≠b)(r:bA Pw oa c h w mv):bA Pw oa c h' w mv:=r.to u.tr λ o e ζ q=>{(u.bx _ a).trans e,q}
def NP.kp{s':Shared}{h'}{b}(u:dE c s.heap h' b)(a:b=J.env.locals∨(J.fl=true/\∃x,J.env.cells.lookup x=some b)):Kp (J.D oa) c s.heap c h':=u.kp (a.elim (λ e=>e▸Ct.zv) λ e=>e.2.elim λ x q=>Ct.lu e.1 q)
def Jx.I.ne(I:J.I ρ oa σ c s)(f:b=J.env.locals∨(J.fl=true/\∃x,J.env.cells.lookup x=some b)){j}(a:J.ow=some j)(d:(ay ρ j).isSome=true):oa≠b:=f.elim (λ e=>e▸Inv.px I j a d) λ e=>e.2.elim λ x q=>(Inv.own I e.1 j a d).2 x b q
def lJ{M}{A}{E}{T}(I:J.I ρ oa σ c s)(F:J.Γ.lookup y=some i)(B:injΓ J.Γ=true)(P:J.κ.lookup y=some .local∨(J.fl=true/\J.κ.lookup y=some .cell))(h:J.ow≠some i)(r:Rp c s.heap v mv)(k:∀s',J.I (ρ.set i (some v)) oa σ c s'->Kp (J.D oa) c s.heap c s'.heap->T () s'):wpAny M A (storeName J.env y mv) T E s:=I.er.ns.casesOn λ m n z=>AA I P n λ s' Q=>Q.casesOn λ h' t b m' G u D H L S at_ C N=>by
 have p:∀j,J.ow=some j->(ay (ρ.set i (some v)) j).isSome=true->(ay ρ j).isSome=true:=λ j d g=>(nB.mp g).elim λ w g=>(me g).elim (λ e=>absurd d (e.1▸h)) λ e=>e.2▸rfl;subst G;refine k _ (I.put u H L (.mk m' S λ x j w d g=>(me g).elim (λ e=> ?_) λ e=> ?_) N (λ j d g=>Inv.px I j d (p j d g)) (λ f j d g=>Inv.own I f j d (p j d g)) λ a m=>Inv.dh I a m) (NP.kp (s':=s) u D)
 ·rw [e.1] at d ⊢;rw [injΓ_of B _ _ _ d F,e.2];exact .mk mv at_ (.mr h (r.off I.g.ok u))
 ·exact (z x j w d e.2).casesOn λ l a r=> .mk l (C x l (λ q=>e.1 (ar (d.symm.trans (q▸F)))) a) (r.to (λ o r=>w0 u (I.ne D o (e.2▸rfl)) r) u.tr)
def Te(I:J.I ρ oa σ c s)(h:TG∈c.H/\TG∉c.S):∀a∈J.D TG,a∈c.H/\a∉c.S:=λ a m=>by
 have d:=λ a m=>Inv.dh I a m;cases e:J.fl with
 | false=>
  have m:a∈if J.fl=true then J.env.locals::TG::(J.K ρ oa).cs else [J.env.locals]:=m
  rw [e] at d m;exact d a m
 | true=>
  have m:a∈if J.fl=true then J.env.locals::TG::(J.K ρ oa).cs else [J.env.locals]:=m
  rw [e] at d m;exact (a0.mp m).elim (λ e=>e▸d _ (.head _)) λ m=>(a0.mp m).elim (λ e=>e▸h) λ m=>d a (.tail _ (.tail _ m))
def rZ{M}{A}{E}{T}(I:J.I ρ oa σ c s)(F:J.Γ.lookup y=some i)(p:injΓ J.Γ=true)(S:J.κ.lookup y=some .local∨(J.fl=true/\J.κ.lookup y=some .cell))(g:J.ow=some i)(o:J.s₀.heap.get? TG=none)(f:TG≠J.env.locals)(d:∀y D,J.env.cells.lookup y=some D->TG≠D)(r:bA Pw TG c s.heap v (.ref TG))(k:∀s',J.I (ρ.set i (some v)) TG σ c s'->Kp (J.D oa) c s.heap c s'.heap->T () s'):wpAny M A (storeName J.env y (.ref TG)) T E s:=I.er.ns.casesOn λ m n z=>AA I S n λ s' U=>U.casesOn λ h' t b m' H u C L P W at_ B Q=>by
 subst H;refine k _ (I.put u L P (.mk m' W λ x j w l N=>(me N).elim (λ e=> ?_) λ e=> ?_) Q (λ ζ ζ ζ=>f) (λ ζ ζ ζ ζ=>⟨o,d⟩) ?_) (NP.kp (s':=s) u C)
 ·rw [e.1] at l ⊢;rw [injΓ_of p _ _ _ l F,e.2];exact .mk _ at_ (.mo g (w0 u (C.elim (λ e=>e▸f) λ e=>e.2.elim λ x q=>d x b q) r))
 ·have G:J.ow≠some j:=λ q=>e.1 (ar (q.symm.trans g));exact (z x j w l e.2).casesOn λ h a r=> .mk h (B x h (λ q=>e.1 (ar (l.symm.trans (q▸F)))) a) (.mr G (u.tr.rep (r.rep G)))
 ·exact Te I ⟨r.hs.1,r.hs.2.1⟩
def wX(I:J.I ρ oa σ c s)(D:J.fl=true)(d:J.ow=some i)(A:(ay ρ i).isSome=true)(u:dE c s.heap h' oa)(C:oa∉c.Fs)(r:bA Pw oa c h' v (.ref oa)):J.I (ρ.set i (some v)) oa σ c {s with heap:=h',toks:=t}/\Kp (J.D oa) c s.heap c h':=I.er.ns.casesOn λ m n z=>by
 have o:=Inv.own I D i d A;have at_:∀{x mv},At _ c _ m x mv->At J.env c h' m x mv:=λ a=>a.to id λ h p l e ζ L C=>{(u.bx h λ e=>o.2 _ h l e.symm).trans e,L,C};refine {I.put u o.1 (u.here.imp λ p e=>{e,λ m=>absurd m C}) (.mk m (n.elim λ p w=>{p,w.elim λ F w=>w.elim λ n w=>{F,n,(u.bx _ λ e=>Inv.px I i d A e.symm).trans w.1,w.2}}) λ x j w k B=>(me B).elim (λ e=> ?_) λ e=> ?_) (λ f x h k B=>(Inv.qE I f x h k B).2.2.2.2.elim λ w H=>H.elim λ p q=>{w,p,(u.bx h λ e=>o.2 _ h k e.symm).trans q.1,q.2}) (λ ζ ζ ζ=>Inv.px I i d A) (λ ζ ζ ζ ζ=>o) λ a m=>Inv.dh I a m,u.kp (Ct.zu D)}
 ·rw [e.1] at k ⊢;rw [e.2];exact (nB.mp A).elim λ M G=>(z x i M k G).casesOn λ g a q=> .mk g (at_ a) (.mo d ((q.own d).rf▸r))
 ·have E:J.ow≠some j:=λ q=>e.1 (ar (q.symm.trans d));exact (z x j w k e.2).casesOn λ g a q=> .mk g (at_ a) (.mr E (u.tr.rep (q.rep E)))
end
def AO(t:Tg):Prop:=∀{J:Jx} {f:En} {b:Addr} {g:St} {c:Cx} {s:Shared} {X:Expr} {v:V} {e:Value} {a:En} {E:VP} {T:Unit->Shared->Prop},injΓ J.Γ=true->ib J.Γ t X=true->(c5 X).all (cA J.κ J.fl)=true->freeOf J.ow (bw t)=true->dR t v f=some a->J.I f b g c s->Rp c s.heap v e->(∀d,J.I a b g c d->Kp (J.D b) c s.heap c d.heap->T () d)->wpAny M0 J.A (assign X J.env e) T E s
def CF(h:List Tg):Prop:=∀{J:Jx} {j:En} {f:Addr} {k:St} {c:Cx} {s:Shared} {d:List Expr} {i:List V} {a:List Value} {b:En} {E:VP} {T:Unit->Shared->Prop},injΓ J.Γ=true->jf J.Γ h d=true->(gu d).all (cA J.κ J.fl)=true->freeOf J.ow (fE h)=true->lL h i j=some b->J.I j f k c s->cy c s.heap i a->(∀g,J.I b f k c g->Kp (J.D f) c s.heap c g.heap->T () g)->wpAny M0 J.A (assignInOrder (d.map λ e=>assign e J.env) a) T E s
def Nt{i}:AO (.loc i):=λ {J n m o c s X v h l E T} f a b g d I r k=>by
 revert b
 exact cz (λ X=>(c5 X).all _=true->wpAny M0 J.A (assign X _ h) T E s) a λ x p a b=>aR d λ ζ d=>Bn (lJ I (bq a) f (jg (an b).1) (iH g (.head _)) r λ j e st=>k j (ar d▸e) st)
def Nq{n}(A:CF n):AO (.tup n):=λ {J P M Q c s X v j F E T} u d h x f I r k=>by
 revert h
 refine eD (λ X=>(c5 X).all _=true->wpAny M0 J.A (assign X _ j) T E s) d λ G H p d h=>ab f λ N y f=>d6 (λ j=>wpAny M0 J.A _ T E s) y r λ a B L D l=> ?_;have g:=fN (env:=J.env) (nX d).1;refine assign_Tuple_tuple I.rm.hd D.isTup (by simp [g.2.1,l.length,←(nX d).2,zP f]) g.2.2 λ t z=> ?_;have i:PK s {s with heap:=t}:=⟨λ b o e=>z b o (jG (fY e)) e,rfl,rfl⟩;exact g.1▸A u d h x f (I.next (i.post I.g)) (i.bN I.g.ok l) λ C q st=>k C q ((i.post I.g).st.kp.trans st λ a m=> .inl m)
def Nr:CF []:=λ {J m l n c s g e d f E T} h a i j b I r k=>by
 cases qm.mp a;cases e with
 | cons _ _=>contradiction
 | nil=>
  cases b;exact Bx (k s I (.refl ..))
def Jg{t}{o}(z:AO t)(A:CF o):CF (t::o):=λ {J L G M c s j p B C E T} l f b n y I r k=>by
 cases j with
 | nil=>exact c4 f
 | cons e j=>
  cases p with
  | nil=>contradiction
  | cons v p=>
   have b:=List.all_append.symm.trans b;exact ab y λ D u x=>r.elim λ m r=>r.elim λ F r=>r.1▸u_ (z l (an (an f).2).1 (an b).1 (qy n λ i m=>sI _ m) u I r.2.1 λ H q st=>A l (an (an f).2).2 (an b).2 (qy n λ i m=>sJ _ m) x q (st.bN I.g.ok (λ a m=>(Inv.dh I a m).1) r.2.2) λ g d h=>k g d (st.trans h λ a m=> .inl m))
def zr(t):AO t:=Tg.rec (motive_1:=λ ζ=>True) (motive_2:=AO) (motive_3:=λ ζ=>True) (motive_4:=λ ζ=>True) (motive_5:=CF) (λ ζ=>trivial) (λ ζ=>trivial) (λ ζ=>trivial) (λ ζ ζ ζ=>trivial) (λ ζ ζ ζ ζ ζ ζ=>trivial) (λ ζ ζ ζ=>trivial) (λ ζ ζ ζ ζ ζ ζ ζ ζ=>trivial) (λ ζ ζ ζ=>trivial) (λ ζ ζ ζ ζ ζ ζ=>trivial) (λ ζ ζ ζ ζ ζ=>trivial) (λ ζ ζ ζ=>trivial) (λ ζ ζ ζ ζ=>trivial) (λ ζ ζ=>trivial) (λ ζ ζ ζ=>trivial) trivial (λ ζ ζ ζ ζ=>trivial) (λ ζ ζ=>trivial) (λ ζ=>trivial) (λ ζ=>trivial) (λ ζ ζ=>trivial) (λ ζ ζ ζ=>trivial) (λ ζ ζ ζ ζ ζ ζ ζ ζ=>trivial) trivial (λ ζ=>Nt) (λ ζ i=>Nq i) (λ ζ ζ=>trivial) (λ ζ ζ=>trivial) (λ ζ ζ ζ ζ=>trivial) (λ ζ ζ=>trivial) trivial (λ ζ ζ ζ ζ=>trivial) Nr (λ ζ ζ a b=>Jg a b) t
def Wt.kn{c d:Type}{b:Cm}{t:Tree c}{f:c->St->Tree d}{Q:d->St->Prop}{U e:VS}(h:Wt b (kT t f) Q U):Wt b t (λ a σ=>Wt b (f a σ) Q U) e:=h.elim λ r h=>(RK t h.1).elim λ a z=>z.elim λ σ z=>⟨_,z.1,r,z.2,h.2⟩
section
variable{J:Jx}{ρ ρ':En}{oa TG:Addr}{σ σ':St}{c c':Cx}{s s':Shared}{U:VS}{Q:VS}{kn kb:Kn}{x e:X}{elt:Expr}{E:VP}{i:Nat}{l l0:List V}{C:Prop}{cs:List X}{ifs:List Expr}
def XP.no{e:Value}(x:XP J NX e s):C:=x.casesOn λ ζ ζ ζ ζ ζ ζ ζ h ζ ζ ζ ζ ζ ζ ζ=>h.elim
noncomputable abbrev EX(env:Env)(cs:List Expr)(b:Bool):PySem.Sem Bool:=forIn cs b λ c r=>if r=true then do let ok ←isTrue c env (eval c env);pure (ForInStep.yield ok) else pure (ForInStep.yield r)
def CQ:∀{cs:List X} {ifs:List Expr} {g:Bool->St->Prop} {σ:St} {c:Cx} {s:Shared},P5 cs->eA J.S cs ifs=true->Wt J.cl (nN cs ρ σ) g NX->J.I ρ oa σ c s->wpAny M0 J.A (EX J.env ifs true) (Bp g c s) E s:=by
 intro cs
 induction cs with
 | nil=>exact λ {ifs g σ c s} j f h I=>b4 (λ ifs=>wpAny M0 J.A (EX _ ifs _) _ E s) f (aD {σ,c,h.ok,.refl I.g})
 | cons x o m=>
  intro ifs g σ c s j f h I;cases ifs with
  | nil=>exact c4 f
  | cons t n=>
   unfold EX;rw [sC];refine af (af (az ((j.hd (an f).1).t h.tb c s I) (λ b k z=>aD (z.casesOn λ a d q p=> ?_)) λ e s' x=>x.no));cases b with
   | true=>exact az (m j.tl (an f).2 q (I.next p)) (λ ζ ζ z=>z.to p) λ ζ ζ x=>x
   | false=>exact vY n ⟨a,d,q.ok,p⟩
structure DL(J:Jx)(oa:Addr)(c:Cx)(s:Shared)(D:Addr)(wr:List Addr)(vs:List V)(ms:List Value):Prop where
 gW:D∈c.H
 nS:D∉c.S
 nF:D∉c.Fs
 nD:D∉J.D oa
 nw:D∉wr
 sq:SeqAt s.heap D "list" ms
 r:cy c s.heap vs ms
structure Lc(J:Jx)(t:Tg)(TF:Expr)(l:List V)(Ia D:Addr)(wr fp:List Addr)(TC:List Value)(l0:List V)(Val:Nat->Heap->Value->Heap->Prop)(St:Nat->Heap->Prop):Prop where
 src:Src J.A Ia wr fp TF l TC l0 Val St
 i:injΓ J.Γ=true
 h2:ib J.Γ t TF=true
 h3:(c5 TF).all (cA J.κ J.fl)=true
 h4:freeOf J.ow (bw t)=true
 len:l.length<=1000000
 fr:∀b∈D::wr,J.s₀.heap.get? b=none
 Tb:∀y cc,J.env.cells.lookup y=some cc->∃o,J.s₀.heap.get? cc=some o
noncomputable abbrev cL(e:X)(cs:List X)(t:Tg)(l:List V)(ρ:En)(σ:St):Tree (List V):=je (λ ρ σ=>ev e ρ σ) (λ ρ σ=>nN cs ρ σ) t l ρ σ
inductive CI(J:Jx)(e:X)(cs:List X)(t:Tg)(l:List V)(Qc:List V->St->Prop)(oa D:Addr)(wr fp:List Addr)(TC:List Value)(l0:List V)(St:Nat->Heap->Prop)(n:Nat)(s:Shared):Prop
 | mk (i:Nat) (ρ:En) (σ:PM.St) (c:Cx) (vs:List V) (ms:List Value) (en:n=l.length-i) (hi:i<=l.length) (hv:vs.length<=i) (w:Wt J.cl (cL e cs t (l.drop i) ρ σ) (λ ws σ=>Qc (vs++ws) σ) NX) (ex:∀j,J.ow=some j->(ay ρ j).isSome=true->∃o,J.s₀.heap.get? oa=some o) (I:J.I ρ oa σ c s) (M:fT (J.K ρ oa) J.fl c s wr fp TC l0) (dl:DL J oa c s D wr vs ms) (st:St i s.heap):CI J e cs t l Qc oa D wr fp TC l0 St n s
def CT(J:Jx)(e:X)(cs:List X)(t:Tg)(l:List V)(b:List V->St->Prop)(oa D:Addr)(wr d:List Addr)(a:List Value)(l0:List V)(St:Nat->Heap->Prop)(n:Nat)(s:Shared):Prop:=∃m,m<n/\CI J e cs t l b oa D wr d a l0 St m s
def QW(J:Jx)(D:Addr)(elt:Expr)(ifs:List Expr)(G:Shared->Prop)(s:Shared):Prop:=wpAny M0 J.A (EX J.env ifs true) (λ f a=>if f=true then wpAny M0 J.A (eval elt J.env) (λ x b=>wpAny M0 J.A (PySem.call (.builtin "list.append") [.ref D,x]) (λ ζ s=>G s) (XP J NX) b) (XP J NX) a else G a) (XP J NX) s
section
variable{t:Tg}{TF:Expr}{Ia D:Addr}{wr fp:List Addr}{TC:List Value}{Val:Nat->Heap->Value->Heap->Prop}{St:Nat->Heap->Prop}{vs:List V}{ms:List Value}{Qc:List V->PM.St->Prop}
def DL.step(dl:DL J oa c s D wr vs ms)(I:J.I ρ oa σ c s)(b:Kp (J.D oa) c s.heap c' s'.heap):DL J oa c' s' D wr vs ms:=
 dl.sq.elim λ n e=>{b.bz _ dl.gW,b.gQ e dl.nS,b.jA e dl.nF,dl.nD,dl.nw,SeqAt.kp b dl.nS dl.nF dl.nD dl.sq,b.bN I.g.ok (λ a m=>(Inv.dh I a m).1) dl.r}
def Lc.off{a:List Addr}{d:Heap}{tk:Nat}(L:Lc J t TF l Ia D wr fp TC l0 Val St)(ex:∀j,J.ow=some j->(ay ρ j).isSome=true->∃o,J.s₀.heap.get? oa=some o)(I:J.I ρ oa σ c s)(u:eu c s.heap d a)(sub:∀b∈a,b∈D::wr)(p:∀b∈a,b∉c.Fs)(n:∀b∈a,b∉J.D oa):J.I ρ oa σ c {s with heap:=d,toks:=tk}:=
 Inv.eZ I (λ j h k m=>(ex j h k).elim λ o e=>aQ ((L.fr _ (sub _ m)).symm.trans e)) (λ y f g m=>(L.Tb y f g).elim λ o e=>aQ ((L.fr _ (sub _ m)).symm.trans e)) u p n λ b m=>L.fr b (sub b m)
def uN{K:Ct}{f:Bool}{a:Heap}{tk:Nat}{h:List Addr}(M:fT K f c s wr fp TC l0)(k:∀b∈fp,b∉c.H->∀o,s.heap.get? b=some o->a.get? b=some o)(u:eu c s.heap a h):fT K f c {s with heap:=a,toks:=tk} wr fp TC l0:=
 {M.w,λ b g=>(M.f b g).imp id λ z=>{z.1,z.2.elim λ T y=>y.elim λ d y=>y.elim λ n e=>{T,d,n,k b g z.1 _ e}},M.r.eZ u}
def IM{u:V}{m:Value}(L:Lc J t TF l Ia D wr fp TC l0 Val St)(f:i<l.length)(A:vs.length<=i)(w:Wt J.cl (cL e cs t (l.drop (i+1)) ρ σ) (λ F σ=>Qc ((vs++ [u])++F) σ) NX)(ex:∀j,J.ow=some j->(ay ρ j).isSome=true->∃o,J.s₀.heap.get? oa=some o)(I:J.I ρ oa σ c s)(M:fT (J.K ρ oa) J.fl c s wr fp TC l0)(dl:DL J oa c s D wr vs ms)(st:St (i+1) s.heap)(r:Rp c s.heap u m):
 wpAny M0 J.A (PySem.call (.builtin "list.append") [.ref D,m]) (λ ζ s=>CT J e cs t l Qc oa D wr fp TC l0 St (l.length-i) s) E s:=by
 refine wpAny_list_append_plain (hsz:=by rw [e7,dl.r.length];exact dd (ag A (ag (iC f) L.len))) dl.sq λ B p g=> ?_;have h:∀b∈[D],b=D:=λ b m=>cu.mp m;have y:eu c _ B [D]:={λ b m=>h b m▸dl.gW,λ b m=>h b m▸dl.nS,λ a o n e=>(g.2 a λ q=>n (q▸.head _)).trans e,λ b m=>h b m▸⟨_,p.choose_spec⟩};have k:∀b∈fp,b≠D:=λ b d q=>(M.f b d).elim (λ z=>dl.nw (q▸z)) λ z=>z.1 (q▸dl.gW)
 exact {l.length-(i+1),Nat.sub_succ_lt_self _ _ f,i+1,ρ,σ,c,vs++ [u],ms++ [m],rfl,f,by rw [hH];exact ez A,w,ex,L.off ex I y (λ b m=>h b m▸.head _) (λ b m=>h b m▸dl.nF) λ b m=>h b m▸dl.nD,uN M (λ b d ζ o e=>(g.2 b (k b d)).trans e) y,
  {dl.gW,dl.nS,dl.nF,dl.nD,dl.nw,p.elim λ n e=>{n,e.trans (by simp)},(dl.r.snoc r).eZ y},L.src.frame _ _ _ st λ b d o e=>(g.2 b (d.elim (λ d q=>dl.nw (q▸d)) (k b))).trans e}
def IL(S:P1 e)(P:P5 cs)(L:Lc J t TF l Ia D wr fp TC l0 Val St)(H:ck J.S e elt=true)(N:eA J.S cs ifs=true)(d:i<l.length)(A:vs.length<=i)(w:Wt J.cl (kT (nN cs ρ σ) λ b σ=>cond b (kT (ev e ρ σ) λ v σ=>kT (cL e cs t (l.drop (i+1)) ρ σ) λ vs σ=> .ret (.ok (v::vs) σ)) (cL e cs t (l.drop (i+1)) ρ σ)) (λ G σ=>Qc (vs++G) σ) NX)(ex:∀j,J.ow=some j->(ay ρ j).isSome=true->∃o,J.s₀.heap.get? oa=some o)(I:J.I ρ oa σ c s)(M:fT (J.K ρ oa) J.fl c s wr fp TC l0)(dl:DL J oa c s D wr vs ms)(st:St (i+1) s.heap):
 QW J D elt ifs (CT J e cs t l Qc oa D wr fp TC l0 St (l.length-i)) s:=
 have h {c':Cx} {s':Shared} {σ':PM.St} (p:Po c s σ' c' s'):=M.kp L.src I.g.ok (λ a m=>(Inv.dh I a m).1) st p.st.kp (.inl rfl)
 az (CQ P N w.kn I) (λ b B z=>z.casesOn λ f g q p=>by
  cases b with
  | false=>exact {l.length-(i+1),Nat.sub_succ_lt_self _ _ d,i+1,ρ,f,g,vs,ms,rfl,d,nj A,q,ex,I.next p,(h p).1,dl.step I p.st.kp,(h p).2}
  | true=>
   refine az ((S H).v (Wt.kn q) _ _ (I.next p)) (λ m F z=>z.casesOn λ u n y q T r=> ?_) λ ζ ζ x=>x;have k:=p.trans T
   exact IM L d A ((Wt.kn q).mono λ G σ q=>by rw [jJ];exact q.ok) ex (I.next k) (h k).1 (dl.step I k.st.kp) (h k).2 r) λ ζ ζ x=>x
def Eo(ie:P1 e)(Z:P5 cs)(L:Lc J t TF l Ia D wr fp TC l0 Val St)(H:ck J.S e elt=true)(N:eA J.S cs ifs=true)(g:i<l.length){v:Value}{f:Heap}{tk:Nat}(W:vs.length<=i)(w:Wt J.cl (cL e cs t (l.drop i) ρ σ) (λ ws σ=>Qc (vs++ws) σ) NX)(ex:∀j,J.ow=some j->(ay ρ j).isSome=true->∃o,J.s₀.heap.get? oa=some o)(I:J.I ρ oa σ c s)(M:fT (J.K ρ oa) J.fl c s wr fp TC l0)(dl:DL J oa c s D wr vs ms)(S:Val i s.heap v f)(st:St (i+1) f)(r:∀b o,b∉wr->s.heap.get? b=some o->f.get? b=some o):
 wpAny M0 J.A (assign TF J.env v) (λ ζ k=>QW J D elt ifs (CT J e cs t l Qc oa D wr fp TC l0 St (l.length-i)) k) (XP J NX) {s with heap:=f,toks:=tk}:=by
 rw [LX g] at w;have u:eu c _ f wr:={λ b d=>(M.w b d).1,λ b d=>(M.w b d).2.1,r,λ b d=>(L.src.live _ f st b d).elim λ o z=>z.elim λ T z=>⟨o,z.1⟩};have p:=L.off (tk:=tk) ex I u (λ b m=> .tail _ m) (λ b d=>(M.w b d).2.2.1) λ b d=>(M.w b d).2.2.2
 exact w.on λ ρ2 B w=>zr t L.i L.h2 L.h3 L.h4 B p (L.src.rep _ c i _ v f _ (cQ g) I.g.low (M.r.eZ u) S) λ s4 F h=>
  ((uN M (λ b ζ n o e=>r b o (λ q=>n (M.w b q).1) e) u).kp L.src p.g.ok (λ a m=>(Inv.dh p a m).1) st h (.inl rfl)).elim λ G y=>IL ie Z L H N g W w (λ j A P=>ex j A (by rw [←uj t (λ m=>iH L.h4 m A) B];exact P)) F G (({dl.gW,dl.nS,dl.nF,dl.nD,dl.nw,dl.sq.elim λ n e=>{n,r D _ dl.nw e},dl.r.eZ u}:DL J oa c _ D wr vs ms).step p h) y
def Em{sc:Scope}{pos:Pos}{R:Result->Shared->Prop}{n:Nat}(B:P1 e)(A:P5 cs)(L:Lc J t TF l Ia D wr fp TC l0 Val St)(m:ck J.S e elt=true)(p:eA J.S cs ifs=true){iter:Expr}(z:CI J e cs t l Qc oa D wr fp TC l0 St n s)
 (k:∀ρ σ c s vs ms,Qc vs σ->J.I ρ oa σ c s->fT (J.K ρ oa) J.fl c s wr fp TC l0->DL J oa c s D wr vs ms->∀d tk,(∀b o,b∉wr->s.heap.get? b=some o->d.get? b=some o)->R (.ok .next) {s with heap:=d,toks:=tk}):
 codeAny M0 J.A (.compLoop (.ListComp elt [{TF,iter,ifs,0}] sc pos) 0 (.ref Ia) (.ref D) J.env) R s:=
 tj (E':=XP J NX) (λ ζ ζ x=>x.no) _ (λ n s z=>z.casesOn λ i ρ σ c vs ms q u y w ex I M dl st=>by
  subst q;by_cases a:i<l.length
  ·refine az (L.src.next i s _ _ a st λ v d tk r h f=>Eo B A L m p a y w ex I M dl r h f) (λ o j z=>z.elim λ v z=> ?_) λ ζ ζ x=>x;rw [z.1];exact z.2
  ·have g:=Bb u (xp a);subst g;rw [List.drop_length] at w
   exact L.src.done s _ _ st λ d tk f=>k ρ σ c s vs ms (vs.append_nil▸w.ok) I M dl d tk f) n z
structure CO(J:Jx)(t:Tg)(TF iter:Expr)(sc:Scope):Prop where
 k1:sc.kind= .function
 k2:cq iter=true
 k3:∀q∈sc.names,q.2≠.cell
 k4:∀q∈sc.names,q.2= .local->sc.names.lookup q.1=some .local
 k5:∀q∈sc.names,q.2= .free->J.κ.lookup q.1=some .cell
 k6:ib (compΓ (dH J.κ sc.names) t TF J.Γ) t TF=true
 k7:injΓ (compΓ (dH J.κ sc.names) t TF J.Γ)=true
 k8:(c5 TF).all (cA (dH J.κ sc.names) false)=true
 k9:∀i,J.ow=some i->i∉bw t/\∃x,J.Γ.lookup x=some i
def Gj{sc:Scope}{iter:Expr}(h:vF J.κ J.Γ J.ow t TF iter sc=true):CO J t TF iter sc:=by
 have z:=an h;have b:=an (an (an z.1).1).1;have a:=an (an b.1).1;refine {bq (an (an (an a.1).1).1).1,(an (an (an a.1).1).1).2,λ q m=>bne_iff_ne.mp (gy.mp (an (an a.1).1).2 q m),λ q m e=> ?_,λ q m e=> ?_,(an b.1).2,b.2,gy.mpr λ x m=>Bool.or_eq_true_iff.mpr (.inl (gy.mp (an (an z.1).1).2 x m)),λ i d=> ?_}
 ·exact orr (gy.mp (an a.1).2 q m) (λ h=>absurd e (bne_iff_ne.mp h)) bq
 ·exact orr (gy.mp a.2 q m) (λ h=>absurd e (bne_iff_ne.mp h)) bq
 ·have y:=z.2;rw [d] at y;exact {λ m=>Sy ((Bu.mpr m).symm.trans (nt (an y).1)),(u3.mp (an y).2).elim λ p z=>{p.1,bq (an z.2).2}}
def Jx.cj(J:Jx)(t:Tg)(TF:Expr)(sc:Scope)(C:Addr)(c:Cx)(s:Shared):Jx:={J with env:=compEnvC sc (bF J.env sc.names).reverse C J.env,κ:=dH J.κ sc.names,Γ:=compΓ (dH J.κ sc.names) t TF J.Γ,fl:=false,Fs:=c.Fs,c₀:=c,s₀:=s}
def Jx.I.Sw{y:Str}(I:J.I ρ oa σ c s)(a:J.ow=some i)(d:J.Γ.lookup y=some i)(h:(ay ρ i).isSome=true):oa∈c.H:=(nB.mp h).elim λ v b=>I.er.ns.casesOn λ m n k=>(k y i v d b).casesOn λ f ζ r=>(r.own a).hs.1
theorem Jx.I.cell{y:Str}(I:J.I ρ oa σ c s)(h:J.κ.lookup y=some .cell):∃a o,J.env.cells.lookup y=some a/\s.heap.get? a=some o:=I.er.cx y (by unfold Env.kindOf;rw [I.er.kn];exact h)
def CO.own{iter:Expr}{sc:Scope}(O:CO J t TF iter sc)(I:J.I ρ oa σ c s)(j:Nat)(a:J.ow=some j)(b:(ay (ll (bw t) ρ) j).isSome=true):∃o,s.heap.get? oa=some o:=by
 rw [xQ,if_neg (O.k9 j a).1] at b;exact (O.k9 j a).2.elim λ y d=>I.g.low _ (I.Sw a d b)
def CO.back{iter:Expr}{sc:Scope}{y:Str}{a:Addr}(O:CO J t TF iter sc)(I:J.I ρ oa σ c s)(h:(bF J.env sc.names).reverse.lookup y=some a):∃o,s.heap.get? a=some o:=(I.cell (O.k5 _ (nW h).2 rfl)).elim λ b q=>q.elim λ o q=>{o,by rw [←q.2,ar (q.1.symm.trans (nW h).1)]}
def Pj{iter:Expr}{sc:Scope}{C:Addr}{p:Str->Option Value}(O:CO J t TF iter sc)(I:J.I ρ oa σ c s)(A:C∉c.S)(j:s.heap.Ns C p):ER Pw (compEnvC sc (bF J.env sc.names).reverse C J.env) (dH J.κ sc.names) (compΓ (dH J.κ sc.names) t TF J.Γ) J.ow oa (ll (bw t) ρ) c s.heap:=by
 have b:(relabel sc _).names=dH _ _:=vZ I.er.fk I.er.kn;refine {O.k1,b,I.er.gl,I.er.bl,λ x h=> ?_,A,.mk p j λ x i v u d=> ?_}
 ·have z:=i_ O.k3 (by rw [←b];exact h);exact (I.cell z.2).elim λ f q=>q.elim λ o q=>{f,o,nV q.1 z.1,q.2}
 ·rw [xQ] at d;by_cases g:i∈bw t
  ·rw [if_pos g] at d;exact aQ d
  ·rw [if_neg g] at d;refine (tq u).elim (λ z=>absurd (Ba z).2 g) λ z=> ?_;have y:=iU (q:=λ n=>(dH _ _).lookup n==some _) z;exact I.er.ns.casesOn λ m n k=>(k x i v y.1 d).casesOn λ B a r=> .mk B (a.casesOn (λ a ζ=>nomatch show some _=some .cell from a.symm.trans (show J.env.scope.names.lookup x=_ by rw [I.er.kn];exact (i_ O.k3 (bq y.2)).2)) λ ζ f l o G F=> .cell (.inl (show (relabel sc _).names.lookup x=_ by rw [b];exact bq y.2)) f (nV l (i_ O.k3 (bq y.2)).1) o G F) r
def RQ{iter:Expr}{sc:Scope}{C:Addr}{n:Str->Option Value}(O:CO J t TF iter sc)(I:J.I ρ oa σ c s)(p:Po c s σ' c' s')(g:C∈c'.H)(d:s.heap.get? C=none)(j:C∉c'.S)(f:s'.heap.Ns C n):(J.cj t TF sc C c s).I (ll (bw t) ρ) oa σ' c' s':=
 have b:=I.next p;have k {a:Addr} (h:∃o,s.heap.get? a=some o):=λ q=>h.elim λ o e=>aQ (d.symm.trans (q▸e))
 {{b.rm,b.fo,b.g,Pj O b j f,(Inv.h b).hl},p.st,p.gens,p.os,I.g.ok,p.fs,λ ζ m=>m,⟨d,g⟩,nofun,nofun,λ x v h=>k (O.back I h),nofun,λ i r u=>k (O.own I i r u),nofun,λ a m=>cu.mp m▸⟨g,j⟩,I.g.low}
end
end
section
variable{J:Jx}{ρ ρ':En}{oa TG:Addr}{σ σ':St}{c c':Cx}{s s':Shared}{U:VS}{Q:VS}{kn kb:Kn}{x e:X}{elt iter:Expr}{E Tv:VP}{i:Nat}{l l0:List V}{cs:List X}{ifs:List Expr}{sc:Scope}{pos cpos:Pos}{t:Tg}{TF:Expr}{Ia C D:Addr}{wr fp:List Addr}{TC:List Value}{Val:Nat->Heap->Value->Heap->Prop}{St:Nat->Heap->Prop}{vs:List V}{ms:List Value}{Qc:List V->PM.St->Prop}{use:Option (Value->PySem.Sem Unit)}
inductive CP(Qc:List V->PM.St->Prop)(c:Cx)(s:Shared)(C D:Addr)(s':Shared):Prop
 | mk (vs:List V) (σ:PM.St) (c':Cx) (q:Qc vs σ) (p:Po c s σ c' s') (hC:C∈c'.H) (nS:C∉c'.S) (nF:C∉c'.Fs) (fr:s.heap.get? C=none) (r:Rp c' s'.heap (.lst vs) (.ref D)) (m:Str->Option Value) (ns:s'.heap.Ns C m):CP Qc c s C D s'
def IK{d}{tk}(I:J.I ρ oa σ c s)(L:Lc (J.cj t TF sc C c s) t TF l Ia D wr fp TC l0 Val St)(q:Qc vs σ')(h:(J.cj t TF sc C c s).I ρ' oa σ' c' s')(M:fT ((J.cj t TF sc C c s).K ρ' oa) (J.cj t TF sc C c s).fl c' s' wr fp TC l0)(dl:DL (J.cj t TF sc C c s) oa c' s' D wr vs ms)(f:∀b o,b∉wr->s'.heap.get? b=some o->d.get? b=some o):CP Qc c s C D {s' with heap:=d,toks:=tk}:=by
 have z:Inv _ _ c.Fs c s σ' c' s':=h;have u:bO c' _ d _:={λ b m=>(a0.mp m).elim (λ e=>e▸dl.gW) λ m=>(M.w b m).1,λ b m=>(a0.mp m).elim (λ e=>e▸dl.nS) λ m=>(M.w b m).2.1,λ b m=>(a0.mp m).elim (λ e=>e▸dl.nF) λ m=>(M.w b m).2.2.1,λ a o n e=>f a o (λ q=>n (.tail _ q)) e};have lo:∀b,s.heap.get? b=none->b∉c.H:=λ b e m=>(I.g.low b m).elim λ o j=>aQ (e.symm.trans j);have g:=λ m=>(a0.mp m).elim (λ e=>(λ e=>dl.nD (e▸.head _):D≠C) e.symm) λ m=>(λ b m e=>(M.w b m).2.2.2 (e▸.head _):∀b∈wr,b≠C) C m rfl;exact z.h.er.ns.casesOn λ m y ζ=>{vs,σ',c'.drop _,q,{u.gd z.h.g,u.ug z.st L.fr λ b m=>lo b (L.fr b m),z.fs,z.gens,z.os},Cx.cX.mpr ⟨z.dl.2,g⟩,(z.dh C (.head _)).2,λ q=>lo C z.dl.1 (I.g.ok.f _ (z.fs▸q)),z.dl.1,dl.sq.elim λ n e=>{D,ms,rfl,λ m=>(Cx.cX.mp m).2 (.head _),{n,f D _ dl.nw e},u.bN dl.r},m,y.at' λ o e=>f C o (λ q=>g (.tail _ q)) e}
def Ip{a}{l}(h:∀i,a=some i->i∉l):freeOf a l=true:=by
 cases a with
 | none=>rfl
 | some i=>exact Bool.not_eq_true' _ |>.mpr (Bool.eq_false_iff.mpr λ m=>h i rfl (Bu.mp m))
def B7{s₁ d}{g}{r}{f}{tk}{h0}(O:CO J t TF iter sc)(I:J.I ρ oa σ c s)(p:Po c s r g s₁)(L:PK s₁ d)(B:Src J.A Ia wr fp TF l TC l0 Val St)(F:St 0 d.heap)(P:∀b∈wr,s₁.heap.get? b=none)(W:∀b∈fp,b∈wr∨(b∉g.H/\∃T mvs,SeqAt s₁.heap b T mvs))(rr:cy g s₁.heap l0 TC)(len:l.length<=1000000)
 (A:∀b o,d.heap.get? b=some o->f.get? b=some o) (hD:f.get? D=some {cls:=.type "list",data:=.seq #[]}) (hC:f.Ns C h0) (fD:d.heap.get? D=none) (M:d.heap.get? C=none) (ne:D≠C) (w:Wt J.cl (cL e cs t l (ll (bw t) ρ) r) Qc NX):Lc (J.cj t TF sc C c s) t TF l Ia D wr fp TC l0 Val St/\CI (J.cj t TF sc C c s) e cs t l Qc oa D wr fp TC l0 St (l.length-0) {d with heap:=f,toks:=tk}/\St 0 f:=by
 have v:=λ b o e=>A b o (L.keep b o e)
 have k:∀b,d.heap.get? b=none->s₁.heap.get? b=none:=λ b e=>by
  cases q:s₁.heap.get? b with
  | none=>rfl
  | some o=>exact aQ (e.symm.trans (L.keep b o q))
 have N:=λ b m=>(a0.mp m).elim (λ e=>e▸k _ M) λ m=>(a0.mp m).elim (λ e=>e▸k _ fD) (P b);have lv:∀b∈wr,∃o,d.heap.get? b=some o:=λ b S=>(B.live 0 _ F b S).elim λ o z=>z.elim λ T z=>⟨o,z.1⟩;have p4:Po _ _ _ _ {d with heap:=f,toks:=tk}:=.d7 p.good v L.gens L.os N λ b m=>(a0.mp m).elim (λ e=>e▸hC.elim λ o z=>z.elim λ ζ z=>z.elim λ ζ z=>⟨o,z.1⟩) λ m=>(a0.mp m).elim (λ e=>e▸⟨_,hD⟩) λ m=>(lv b m).elim λ o e=>⟨o,A b o e⟩;have u:=I.next p;have nH:=λ b m=>u.no (N b m);have Z:∀b∈C::D::wr,b∈(g.d7 _).H:=λ b m=>sI _ m;have nS:=λ b m=>u.g.ok.no (nH b m);have nF:=λ b m=>u.g.ok.cF (nH b m);have mw:∀b∈wr,b∈C::D::wr:=λ b m=> .tail _ (.tail _ m);have nw:∀b∈wr,∀a,d.heap.get? a=none->b≠a:=λ b m a e q=>(lv b m).elim λ o z=>aQ ((q▸e).symm.trans z);have G:=B.frame _ _ _ F λ b ζ o e=>A b o e
 exact {{B,O.k7,O.k6,O.k8,Ip λ i h=>(O.k9 i h).1,len,λ b m=>p.st.none_of (N b (.tail _ m)),λ y cc e=>O.back I e},
  {0,ll _ ρ,r,g.d7 _,[],[],rfl,m_ _,bV _,w,λ j g1 g2=>O.own I j g1 g2,RQ O I (p.trans p4) (Z C (.head _)) (p.st.none_of (k _ M)) (nS C (.head _)) hC,
   {λ b m=>{Z b (mw b m),nS b (mw b m),nF b (mw b m),λ q=>nw b m C M (cu.mp q)},λ b S=>(W b S).imp id λ z=>z.2.elim λ T y=>y.elim λ mvs y=>y.elim λ n e=>{p4.st.vN e z.1,T,mvs,n,v _ _ e},aj.step u.g.ok p4.st _ _ rr},
   {Z D (.tail _ (.head _)),nS D (.tail _ (.head _)),nF D (.tail _ (.head _)),λ q=>ne (cu.mp q),λ m=>nw D m D fD rfl,{0,hD},rfl},G},G}
def Jx.Sf:(J.cj t TF sc C c s).S=J.S.sub t TF sc:=rfl
def MK{P}{a}(ie:P1 e)(ic:P5 cs)(O:CO J t TF iter sc)(Z:ck (J.S.sub t TF sc) e elt=true)(c2:eA (J.S.sub t TF sc) cs ifs=true)(I:J.I ρ oa σ c s)(z:Sd J TF (λ l σ=>Wt J.cl (kT (cL e cs t l (ll (bw t) ρ) σ) λ vs σ=> .ret (.ok (.lst vs) σ)) Q U) c s P a)
 (hQ:∀C D s',CP (λ vs σ=>Q (.lst vs) σ) c s C D s'->compPost M0 J.A E use Tv (.ref D) C (.ok .next) s'):
 wpAny M0 J.A (newList []) (λ f r=>wpAny M0 J.A (newFunctionEnv sc J.env.globals (bF J.env sc.names).reverse [] J.env.qual none .none (some J.env)) (λ d u=>codeAny M0 J.A (.compStart (.ListComp elt [{TF,iter,ifs,0}] sc pos) 0 P f {d with scope:=relabel sc J.env}) (compPost M0 J.A E use Tv f d.locals) u) E r) E a:=
 z.casesOn λ l H L T q F p mx=>mx.casesOn λ Ia wr fp TC l0 Val St pk e2 n G y A rr=>by
  subst e2;refine oZ (wpAny_newFunctionEnv O.k3 (λ ζ m=>absurd m kR) (λ N B g=> ?_) O.k1) (m_ _);have v:=xo a.heap {cls:=.type "list",data:=.seq [].toArray};have z:=B7 (tk:=a.toks+0) O I p pk n G y A rr F (λ b o e=>(g.2 b (v▸(λ b o e=>jG (Bl (fY e))) b o e)).trans (b9 _ (b9 _ e))) ((g.2 _ (v▸jG (j8 _))).trans (b9 _ (dW _ rfl))) B (aE _) (v▸nu (kN _)) (v▸jG (j8 _)) ((Wt.kn q).mono λ ζ ζ h=>h.ok);have j:=λ R k=>Em ie ic (R:=R) (sc:=sc) (pos:=pos) (iter:=iter) z.1 Z c2 z.2.1 k;have S:=j _ λ ρ' σ' c' s' vs ms q W M dl h' tk hk=>hQ _ _ _ (IK I z.1 q W M dl hk);exact codeAny_compStart_list S (n.self 0 _ _ _ z.2.2 S)
def vH{a}(q:P1 e)(ii:P4 a)(n:P5 cs)(O:CO J t TF iter sc)(f:pS J.S a iter TF=true)(g:ck (J.S.sub t TF sc) e elt=true)(j:eA (J.S.sub t TF sc) cs ifs=true)(h:Wt J.cl (ev (.comp e t a cs) ρ σ) Q U)(I:J.I ρ oa σ c s)
 (k:∀C D s',CP (λ vs σ=>Q (.lst vs) σ) c s C D s'->compPost M0 J.A (XP J U) use Tv (.ref D) C (.ok .next) s'):wpAny M0 J.A (comprehension (.ListComp elt [{TF,iter,ifs,0}] sc pos) sc J.env cpos (newList []) false (eval iter J.env) use) Tv (XP J U) s:=
 wpAny_comprehension_free rfl (xB O.k2) (zk λ p m e=>(I.cell (O.k5 p m e)).elim λ u z=>z.elim λ o z=>by simp_all) O.k1 O.k4
  (az (ii f h.b c s I) (λ x b z=>az z (λ r d z=>MK q n O g j I z k) λ ζ ζ x=>x) λ ζ ζ x=>x)
def IJ{a}(o:P1 e)(ii:P4 a)(n:P5 cs)(O:CO J t TF iter sc)(b:pS J.S a iter TF=true)(d:ck (J.S.sub t TF sc) e elt=true)(f:eA (J.S.sub t TF sc) cs ifs=true)(h:Wt J.cl (ev (.comp e t a cs) ρ σ) Q U)(I:J.I ρ oa σ c s):wpAny M0 J.A (eval (.ListComp elt [{TF,iter,ifs,0}] sc pos) J.env) (Vp Q c s) (XP J U) s:=vH o ii n O b d f h I λ C D s' z=>z.casesOn λ vs σ' c' q p j y v g r m A=>{m,A,λ F k=>(p.O_ I.g.low j y v g k).elim λ B u=>{.lst vs,σ',_,q,B,u.rep r}}
end
section
variable{J:Jx}{E:Expr}{ρ:En}{oa:Addr}{σ:St}{U:VS}{Q:VS}{x y:X}{xs:List X}{es:List Expr}{p:Pr}
def yG{v}:P1 (.lit v):=λ {J E ρ oa σ} a=>lC (λ E=>EB J _ E ρ oa σ) a λ c k p a=> .of (λ h c s I=>vD a λ b t q=>{v,σ,c,h.ok,.toks I.g,q}) λ ζ ζ=>rfl
def Oj{i}:P1 (.loc i):=λ {J E ρ oa σ} a=>cz (λ E=>EB J _ E ρ oa σ) a λ x p a=>
 .of (λ h c s I=>Wt.o h λ v b q=>jE I.er (f6 a).1 (f6 a).2.1 b λ d r=>{v,σ,c,q,.refl I.g,r.rep (f6 a).2.2}) λ ζ ζ=>rfl
def KV{a}:P1 (.glob a):=λ {J E ρ oa σ} b=>cz (λ E=>EB J _ E ρ oa σ) b λ x p b=> .of (λ h c s I=>jn F0 I.g.bC I.er b {.fn a,σ,c,h.ok,.refl I.g,rfl}) λ ζ ζ=>rfl
def Om{c a b}(g:P1 c)(e:P1 a)(f:P1 b):P1 (.cM c a b):=λ {J E ρ oa σ} d=>NL (λ E=>EB J _ E ρ oa σ) d λ t x y i d=>
 have z:=an d
 ⟨λ h=>O1 ((g z.1).t ((Wt.tb h).mono λ v σ q=>q.elim λ t q=>{t,q.1,by
  have q:=q.2;cases t
  ·exact (f (an z.2).2).v q
  ·exact (e (an z.2).1).v q})),λ h=>O3 ((g z.1).t ((Wt.tb h).mono λ v σ q=>q.elim λ t q=>{t,q.1,by
  have q:=q.2;cases t
  ·exact (f (an z.2).2).t q
  ·exact (e (an z.2).1).t q}))⟩
def Ou{r}:∀{xs} {es} {σ},P5 xs->eA J.S xs es=true->BB J r xs es ρ oa σ:=by
 intro xs
 induction xs with
 | nil=>exact λ ζ ζ=>{λ h=>Wt.bad h,λ h=>Wt.bad h}
 | cons x xs b=>
  intro es σ i a;cases es with
  | nil=>exact c4 a
  | cons e es=>
   cases xs with
   | nil=>exact b4 (λ es=>BB J r [x] _ ρ oa σ) (an a).2 (.one (i.hd (an a).1))
   | cons y xs=>
    cases es with
    | nil=>exact c4 (an a).2
    | cons c es=>exact .more (i.hd (an a).1) (b i.tl (an a).2)
def Oy{a}(i:P5 xs):P1 (.ba a xs):=λ {J E ρ oa σ} b=>Jp (λ E=>EB J _ E ρ oa σ) b λ e es d b=>bq (an b).1▸
 have z:=Ou i (an b).2
 {λ h=>z.v h,λ h c s I=>z.t h I}
def yF{f}(e:P1 x)(g:P1 y){a b}(c:ck J.S x a=true)(d:ck J.S y b=true)(h:Wt J.cl (bT (ev x ρ σ) λ i σ=>bT (ev y ρ σ) λ j σ=>f i j σ) Q U):bE J [a,b] ρ oa σ (C2 J.cl f Q U) U:=
 .cons ((e c).v (h.b.mono λ v σ h=> .cons ((g d).v (h.b.mono λ w σ h=> .nil h))))
def Hs{p q}{a b c}(k:P1 a)(m:P1 b)(n:P1 c):P1 (.chain p q a b c):=λ {J E ρ oa σ} d=>pU (λ E=>EB J _ E ρ oa σ) d λ l e i f d=>qP (λ e=>EB J _ (.Compare l e i f) ρ oa σ) d λ s t d=>qP (λ i=>EB J _ (.Compare l _ i f) ρ oa σ) d λ o r d=>by
 have j:=an (an (an (an d).2).2).2;have g:=an j.2;rw [bq (an (an d).2).1,bq (an (an (an d).2).2).1];exact {λ h=>IU (an d).1 (n g.2) (yF k m j.1 g.1 h),λ h=>IV (an d).1 (n g.2) (yF k m j.1 g.1 h)}
def KZ{f}(i:P5 xs):P1 (.call f xs):=λ {J E ρ oa σ} d=>ej (λ E=>EB J _ E ρ oa σ) d λ x g args e b a c=> .of (λ h=>Ce b (an a).1 (an a).2 (kh i c h.b)) λ ζ ζ=>rfl
def Wt.cd{a}{b}{t}(h:Wt a (cond b t .fail) Q U):b=true/\Wt a t Q U:=h.c λ e h=>⟨e,h⟩
def KQ{f}{n}(q:P1 x)(i:P5 xs):P1 (.pF f n x xs):=λ {J E ρ oa σ} l=>rO (λ E=>EB J _ E ρ oa σ) l λ o m b args r c d e g a j k=>bq (an a).1▸
 .of (λ h=>AK c d e g (an (an a).2).1 (an (an a).2).2 ((q j).v (h.b.mono λ v σ h=>h.cd.imp id λ h=>kh i k h.b))) λ ζ ζ=>rfl
def Oi{m}(r:P1 x)(i:P5 xs):P1 (.met m x xs):=λ {J E ρ oa σ} l=>rO (λ E=>EB J _ E ρ oa σ) l λ o n a args s b c d f g j k=>bq g▸
 .of (λ h=>DP b c d f ((r j).v (h.b.mono λ v σ h=>h.cd.imp id λ h=>kh i k (h.kn.mono λ t σ h=>h.o λ v e q=>⟨v,e,q⟩)))) λ ζ ζ=>rfl
def Oh{c f}(i:P5 xs):P1 (.new c f xs):=λ {J E ρ oa σ} g=>ej (λ E=>EB J _ E ρ oa σ) g λ x k args j d a e=>
 have b:=an (an (an (an a).2).2).2
 .of (λ h=>DG (orr b.1 (λ h=> .inl (bq h)) λ h=> .inr (bq h)) d (an a).1 (an b.2).1 (an (an (an a).2).2).1 (bq (an (an a).2).1) (bq (an b.2).2) (kh i e h.b)) λ ζ ζ=>rfl
def KO(i:P1 x):P1 (.ro x):=λ {J E ρ oa σ} g=>ej (λ E=>EB J _ E ρ oa σ) g λ n k args d j f c=>c6 (λ args=>EB J _ (.Call _ args [] d) ρ oa σ) c λ a c=>
 .of (λ h=>AE (an c).1 f ((i (an c).2).v (h.b.mono λ v σ h=>h.on λ l e h=>h.g λ b h=>⟨l,e,b,h.ok⟩))) λ ζ ζ=>rfl
def KP{ks}(i:P5 xs):P1 (.kv ks xs):=λ {J E ρ oa σ} f=>hJ (λ E=>EB J _ E ρ oa σ) f λ a c e b=> .of (λ {Q U} h=>by
 by_cases d:ks= []
 ·subst d;cases qm.mp (an (an b).2).2;exact b4 (λ a=>EV J (.Dict a _ e) ρ oa σ Q U) (an b).1 (b4 (λ c=>EV J _ ρ oa σ Q U) (an (an b).2).1 (yN (h.b.ok.g λ ζ h=>h.ok)))
 ·rw [if_neg d] at b;have z:=gx (an (an b).2).1
  exact AF (an b).1 z.1 z.2.1 d z.2.2 (kh i (an (an b).2).2 (h.b.mono λ g σ h=>h.g λ ζ h=>h.ok))) λ ζ ζ=>rfl
def Hl:P1 .tI:=λ {J E ρ oa σ} c=>hJ (λ E=>EB J _ E ρ oa σ) c λ a b d c=>b4 (λ a=>EB J _ (.Dict a _ d) ρ oa σ) (an c).1 (b4 (λ b=>EB J _ _ ρ oa σ) (an c).2 (.of (λ h=>yM h.ok) λ ζ ζ=>rfl))
def Hk(e:P1 x)(f:P1 y):P1 (.qf x y):=λ {J E ρ oa σ} a=>hJ (λ E=>EB J _ E ρ oa σ) a λ b c d a=>c6 (λ b=>EB J _ (.Dict b _ d) ρ oa σ) a λ k a=>e9 (λ k=>EB J _ (.Dict [k] _ d) ρ oa σ) a λ k a=>c6 (λ c=>EB J _ (.Dict _ c d) ρ oa σ) a λ v a=>
 .of (λ h=>yL (yF e f (an a).1 (an a).2 h)) λ ζ ζ=>rfl
def S6(a:Expr):Bool:=kG a λ c ζ ζ=>match c with
 | .int i=>i==0
 | _=>false
def OW{a}(C:Expr->Prop)(h:S6 a=true)(g:∀k p,C (.Constant (.int 0) k p)):C a:=lC C h λ c k p h=>by cases c<;>first | exact bq h▸g k p | exact c4 h
def KJ(r:P1 x):P1 (.uB x):=λ {J E ρ oa σ} q=>rO (λ E=>EB J _ E ρ oa σ) q λ o m f args c s t g j k l d=>bq k▸c6 (λ args=>EB J _ (.Call _ args [] c) ρ oa σ) d λ a d=>OW (λ a=>EB J _ (.Call _ [a] [] c) ρ oa σ) d λ z u=>
 .of (λ h=>z7 g j ((r l).v (h.b.mono λ v σ h=>h.on λ i e h=>h.on λ p n h=>h.g λ b h=>⟨i,p,e,n,b,h.ok⟩))) λ ζ ζ=>rfl
def KN{i}:P1 (.mY i):=λ {J E ρ oa σ} g=>ej (λ E=>EB J _ E ρ oa σ) g λ n m args d k f c=>c6 (λ args=>EB J _ (.Call _ args [] d) ρ oa σ) c λ a c=>
 .of (λ h=>Wt.on h λ v j h=>h.on λ l e h=>h.g λ b h=>Ax f (an c).1 (bq (an c).2) (j.trans (congrArg _ (V.oV e))) b h.ok) λ ζ ζ=>rfl
def KL{i}:P1 (.iR i):=λ {J E ρ oa σ} g=>ej (λ E=>EB J _ E ρ oa σ) g λ n m args d k f c=>c6 (λ args=>EB J _ (.Call _ args [] d) ρ oa σ) c λ a c=>
 .of (λ h=>Wt.on h λ v j h=>h.on λ l e h=>h.g λ b h=>As f (an c).1 (bq (an c).2) (j.trans (congrArg _ (V.oV e))) b h.ok) λ ζ ζ=>rfl
def Of{i}{b}:P1 (.mu i b):=λ {J E ρ oa σ} a=>pU (λ E=>EB J _ E ρ oa σ) a λ l f d c a=>c6 (λ f=>EB J _ (.Compare l f d c) ρ oa σ) a λ m a=>c6 (λ d=>EB J _ (.Compare l _ d c) ρ oa σ) a λ d a=>
 n9 (λ d=>EB J _ (.Compare l _ [d] c) ρ oa σ) (an (an (an a).2).2).1 λ es k g=>b4 (λ es=>EB J _ (.Compare l _ [.List es k] c) ρ oa σ) g (.cmp rfl λ h=>Wt.on h λ v j h=>h.on λ l e h=>DF (bq (an a).1) (an (an a).2).1 (bq (an (an (an a).2).2).2) (j.trans (congrArg _ (V.oV e))) h.ok)
def Oe{i}(j:P1 x):P1 (.si x i):=λ {J E ρ oa σ} a=>pU (λ E=>EB J _ E ρ oa σ) a λ l b d c a=>c6 (λ b=>EB J _ (.Compare l b d c) ρ oa σ) a λ k a=>c6 (λ d=>EB J _ (.Compare l _ d c) ρ oa σ) a λ d a=>by
 have z:=an (an a).2;exact bq (an a).1▸.cmp z.1 λ h=>DE z.1 (an (an z.2).2).1 (bq (an (an z.2).2).2) ((j (an z.2).1).v (h.b.mono λ v σ h=>h.on λ w e h=>h.o λ f g q=>⟨w,e,f,g,q⟩))
def KY{e}{t}{i}{f}(m:P1 e)(ii:P4 i)(l:P5 f):P1 (.comp e t i f):=λ {J E ρ oa σ} a=>wm (λ E=>EB J _ E ρ oa σ) a λ b g o d k=>Cq (λ g=>EB J _ (.ListComp b g o d) ρ oa σ) k λ q j n a=>
 .of (λ h c s I=>IJ m ii l (Gj (an (an a).2).1) (an a).1 (an (an (an a).2).2).1 (an (an (an a).2).2).2 h I) λ ζ ζ=>rfl
def Ht{i}(m:P5 xs):P1 (.tS i xs):=λ {J E ρ oa σ} j=>ej (λ E=>EB J _ E ρ oa σ) j λ x s args n d c g=> .of (λ h=>Wt.on h λ v l h=>h.on λ f e h=>zl d (f6 (an c).1).1 (f6 (an c).1).2.1 (f6 (an c).1).2.2 (l.trans (congrArg _ (V.Ta e))) (h.b.elim λ r q=>(qI (λ a b=>ot a b) (an c).2 q.1).elim λ t e=>(q.2.o e).call.elim λ r q=>(J.BK q.1).k) (kh m g h.b)) λ ζ ζ=>rfl
def Du:∀{xs} {es} {vs},xs.all qw=true->P5 xs->Sem J.cl (cw xs ρ σ) (.ok vs σ)->eA J.S xs es=true->Parts J ρ oa σ es vs:=by
 intro xs
 induction xs with
 | nil=>exact λ {es vs} _ _ h c=>b4 (λ es=>Parts J ρ oa σ es vs) c (by cases Sem.d5 h;exact {rfl,λ ζ m=>absurd m kR})
 | cons x xs f=>
  intro es vs d i h c;cases es with
  | nil=>exact c4 c
  | cons e es=>
   refine (ml _ h).elim λ g z=>(ot (an d).1 z.1).elim λ v q=> ?_;subst q;refine (ml _ z.2).elim λ j y=>(qI (λ a b=>ot a b) (an d).2 y.1).elim λ k q=> ?_;subst q;cases Sem.d5 y.2;have w:=f (an d).2 i.tl y.1 (an c).2;exact {congrArg _ w.1,λ p m=>(a0.mp m).elim (λ e=>e▸(i.hd (an c).1).v ⟨_,z.1,rfl,rfl⟩) (w.2 p)}
def Og(i:P5 xs){e}(a:eA J.S xs [e]=true){L}(h:Wt J.cl (ev (.prim .not xs) ρ σ) (Tq L) U):ET J e ρ oa σ (λ b σ=>L (!b) σ) U:=by
 cases xs with
 | nil=>exact c4 a
 | cons x xs=>cases xs with
  | cons _ _=>exact c4 (an a).2
  | nil=>exact (i.hd (an a).1).t ((Wt.b (Wt.b h)).mono λ v σ h=>Wt.o (Wt.ok (Wt.ok (Wt.b h))) λ w e q=>ab e λ b c e=>{b,V.o_ c,q.elim λ t q=>show L _ _ from V.zm ((ar e).trans q.1)▸q.2})
def bU{J ρ oa σ es Q U}{p:Pr}(i:P5 xs)(a:eA J.S xs es=true)(h:Wt J.cl (ev (.prim p xs) ρ σ) Q U):bE J es ρ oa σ (Pq p Q) U:=kh i a (h.b.mono λ b σ h=>h.o λ v e q=>⟨v,e,q⟩)
def KI(i:P5 xs):P1 (.prim p xs):=λ {J E ρ oa σ} j=>by
 cases p with
 | bin o=>exact t6 (λ E=>EB J _ E ρ oa σ) j λ ζ ζ ζ ζ h=>(bq (an h).1).symm▸.of (λ w=>Ez (bU i (an h).2 w)) λ ζ ζ=>rfl
 | cmp o=>exact qF (λ E=>EB J _ E ρ oa σ) j λ l e d h=> .cmp (an h).1 λ w=>Ep (an h).1 (bU i (an h).2 w)
 | sj=>exact qF (λ E=>EB J _ E ρ oa σ) j λ l e d h=> .cmp (an h).1 λ w=>DH (an h).1 (bU i (an h).2 w)
 | neg=>exact ES (λ E=>EB J _ E ρ oa σ) j λ S x d h=>(bq (an h).1).symm▸.of (λ w=>DI (bU i (an h).2 w)) λ ζ ζ=>rfl
 | not=>exact ES (λ E=>EB J _ E ρ oa σ) j λ S x d h=>(bq (an h).1).symm▸{λ w=>zA (bU i (an h).2 w),λ w=>OC (Og i (an h).2 w)}
 | iE=>exact qF (λ E=>EB J _ E ρ oa σ) j λ l e d h=>sN (λ e=>EB J _ (.Compare l _ [e] d) ρ oa σ) (an h).1 λ k q=> .cmp rfl λ w=>xA (.inl ⟨rfl,rfl⟩) (bU i (an h).2 w)
 | vf=>exact qF (λ E=>EB J _ E ρ oa σ) j λ l e d h=>sN (λ e=>EB J _ (.Compare l _ [e] d) ρ oa σ) (an h).1 λ k q=> .cmp rfl λ w=>xA (.inr ⟨rfl,rfl⟩) (bU i (an h).2 w)
 | item=>exact mI (λ E=>EB J _ E ρ oa σ) j λ v ζ d h=> .of (λ w=>BA (an h).1 (bU i (an h).2 w)) λ ζ ζ=>rfl
 | mN=>exact tT (λ E=>EB J _ E ρ oa σ) j λ v lo s st q d h=>e9 (λ lo=>EB J _ (.Subscript v (.Slice lo s st q) d) ρ oa σ) h λ a h=>qO (λ s=>EB J _ (.Subscript v (.Slice _ s st q) d) ρ oa σ) (an h).1 (qO (λ st=>EB J _ (.Subscript v (.Slice _ _ st q) d) ρ oa σ) (an (an h).2).1 (.of (λ w=>C5 (bU i (an (an h).2).2 w)) λ ζ ζ=>rfl))
 | gK=>exact tT (λ E=>EB J _ E ρ oa σ) j λ v lo s st q d h=>qO (λ lo=>EB J _ (.Subscript v (.Slice lo s st q) d) ρ oa σ) (an h).1 (e9 (λ s=>EB J _ (.Subscript v (.Slice _ s st q) d) ρ oa σ) (an h).2 λ b h=>qO (λ st=>EB J _ (.Subscript v (.Slice _ _ st q) d) ρ oa σ) (an h).1 (.of (λ w=>C4 (bU i (an h).2 w)) λ ζ ζ=>rfl))
 | mM=>exact tT (λ E=>EB J _ E ρ oa σ) j λ v lo s st q d h=>e9 (λ lo=>EB J _ (.Subscript v (.Slice lo s st q) d) ρ oa σ) h λ a h=>e9 (λ s=>EB J _ (.Subscript v (.Slice (some a) s st q) d) ρ oa σ) h λ b h=>qO (λ st=>EB J _ (.Subscript v (.Slice _ _ st q) d) ρ oa σ) (an h).1 (.of (λ w=>zM (bU i (an h).2 w)) λ ζ ζ=>rfl)
 | mL=>exact tT (λ E=>EB J _ E ρ oa σ) j λ v lo s st q d h=>e9 (λ lo=>EB J _ (.Subscript v (.Slice lo s st q) d) ρ oa σ) h λ a h=>qO (λ s=>EB J (.prim .mL xs) (.Subscript v (.Slice (some a) s st q) d) ρ oa σ) (an h).1 (e9 (λ st=>EB J (.prim .mL xs) (.Subscript v (.Slice _ none st q) d) ρ oa σ) (an h).2 λ b h=> .of (λ w=>C3 (bU i h w)) λ ζ ζ=>rfl)
 | tup=>exact eD (λ E=>EB J _ E ρ oa σ) j λ es k d h=> .of (λ w=>CM (an h).1 (bU i (an h).2 w)) λ ζ ζ=>rfl
 | lst=>exact n9 (λ E=>EB J _ E ρ oa σ) j λ es d h=> .of (λ w=>DQ (an h).1 (bU i (an h).2 w)) λ ζ ζ=>rfl
 | bH N=>
  refine hJ (λ E=>EB J _ E ρ oa σ) j λ g f d u=> .of (λ {Q U} w=> ?_) λ ζ ζ=>rfl;by_cases F:N= []
  ·subst F;refine b4 (λ g=>EV J (.Dict g f d) ρ oa σ Q U) (an u).1 (b4 (λ f=>EV J _ ρ oa σ Q U) (an (an u).2).1 ?_);cases xs with
   | nil=>exact BZ (Wt.o (Wt.ok (Wt.b w)) λ v e q=>aR e λ ζ e=>ar e▸q)
   | cons x xs=>exact c4 (an (an u).2).2
  ·rw [if_neg F] at u;have z:=gx (an (an u).2).1;exact Ej (an u).1 z.1 z.2.1 F z.2.2 (bU i (an (an u).2).2 w)
 | j7=>exact hJ (λ E=>EB J (.prim .j7 xs) E ρ oa σ) j λ g f d h=>b4 (λ g=>EB J _ (.Dict g f d) ρ oa σ) (an h).1 (b4 (λ f=>EB J (.prim .j7 xs) _ ρ oa σ) (an (an h).2).1 (.of (λ w=>by
  cases xs with
  | nil=>exact D4 (Wt.o (Wt.ok (Wt.b w)) λ v e q=>aR e λ ζ e=>ar e▸q)
  | cons x xs=>exact c4 (an (an h).2).2) λ ζ ζ=>rfl))
 | j6=>exact hJ (λ E=>EB J _ E ρ oa σ) j λ g f d h=>c6 (λ g=>EB J _ (.Dict g f d) ρ oa σ) h λ k h=>e9 (λ k=>EB J (.prim .j6 xs) (.Dict [k] f d) ρ oa σ) h λ k h=>c6 (λ f=>EB J _ (.Dict _ f d) ρ oa σ) h λ v h=> .of (λ w=>D3 (bU i h w)) λ ζ ζ=>rfl
 | «ek» b=>
  refine ej (λ E=>EB J (.prim _ xs) E ρ oa σ) j λ x P args d A B C=> .of (λ w=> ?_) λ ζ ζ=>rfl;by_cases G:b= .nC
  ·subst G;exact BE A B (bU i C w)
  ·by_cases u:b= .dict
   ·subst u;exact zh A B (bU i C w)
   ·exact EC A ⟨G,u⟩ B (bU i C w)
 | y5 W=>exact GI (λ E=>EB J (.prim _ xs) E ρ oa σ) j λ es d h=>
  have z:=an h;have H:=an z.2;have I:=an H.2;.of (λ w=>(Wt.b w).elim λ r q=>(qI (λ a b=>ot a b) z.1 q.1).elim λ Z e=>(q.2.o e).o λ v D T=>ab D λ t M D=>aR D λ L D=>BM H.1 (Du z.1 i (e▸q.1) I.2) M L (gx I.1) (ar D▸T)) λ ζ ζ=>rfl
 | attr n=>exact fy (λ E=>EB J _ E ρ oa σ) j λ v m d h=>(bq (an h).1).symm▸.of (λ w=>Cy (an (an h).2).1 (an (an (an h).2).2).1 (bU i (an (an (an h).2).2).2 w)) λ ζ ζ=>rfl
 | oB c=>
  have z:=an j;have e:=bq z.1;exact ej (λ E=>EB J _ E ρ oa σ) (an z.2).2 λ x P args d A B C=> .of (λ w=>yO A B (an z.2).1 (bU i C w)) λ ζ ζ=>rfl
def lz(x):P1 x:=
 X.rec (motive_1:=P1) (motive_2:=λ ζ=>True) (motive_3:=P4) (motive_5:=λ ζ=>True)
  (λ ζ=>yG) (λ ζ=>Oj) (λ ζ=>KV) (λ ζ ζ i=>KI i) (λ ζ ζ ζ a b c=>Om a b c) (λ ζ ζ i=>Oy i) (λ ζ ζ ζ ζ ζ a b c=>Hs a b c) (λ ζ ζ i=>KZ i)
  (λ ζ ζ ζ ζ a b=>KQ a b) (λ ζ ζ ζ a b=>Oi a b) (λ ζ ζ i=>Ht i) (λ ζ ζ ζ i=>Oh i) (λ ζ i=>KO i) (λ ζ ζ i=>KP i) Hl (λ ζ ζ a b=>Hk a b) (λ ζ a=>KJ a)
  (λ ζ=>KN) (λ ζ=>KL) (λ ζ ζ=>Of) (λ ζ ζ a=>Oe a) (λ ζ ζ ζ ζ a ζ b c=>KY a b c) (λ ζ=>{λ h=>Wt.bad h,λ h=>Wt.bad h})
  (λ ζ=>trivial) (λ ζ ζ=>trivial) (λ ζ a=>F5 a) (λ ζ a=>BJ a) (λ ζ ζ a b=>BI a b) (λ ζ a=>F6 a)
  (λ ζ m=>absurd m kR) (λ ζ ζ a b y m=>by rcases a0.mp m with e | m;exact e▸a;exact b y m) trivial (λ ζ ζ ζ ζ=>trivial) x
def L9(a):P4 a:=by
 cases a with
 | val x=>exact F5 (lz x)
 | kr x=>exact BJ (lz x)
 | lS x y=>exact BI (lz x) (lz y)
 | nP x=>exact F6 (lz x)
end
section
variable{J:Jx}{ρ ρ':En}{oa TG:Addr}{σ σ':St}{c c':Cx}{s s':Shared}{U:VS}{Q:VS}{kn kb:Kn}
def qK(x:X){E:Expr}(a:ck J.S x E=true):EB J x E ρ oa σ:=lz x a
inductive Nx(J:Jx)(kn:Kn)(Q:VS)(U:VS)(oa:Addr)(c:Cx)(s s':Shared):Prop
 | mk (ρ:En) (TG:Addr) (σ:St) (c':Cx) (w:Wt J.cl (kn ρ σ) Q U) (kp:Kp (J.D oa) c s.heap c' s'.heap) (ho:TG=oa∨s.heap.get? TG=none) (i:J.I ρ TG σ c' s'):Nx J kn Q U oa c s s'
inductive Rt(J:Jx)(Q:VS)(m:Value)(s':Shared):Prop
 | mk (v:V) (σ:St) (c':Cx) (q:Q v σ) (o:eC aL Pw J.Fs J.c₀ J.s₀ σ c' s') (r:Rep KA Pw c'.ν (c'.back J.c₀).H s'.heap v m):Rt J Q m s'
def Fp(J:Jx)(kn kb:Kn)(Q:VS)(U:VS)(oa:Addr)(c:Cx)(s:Shared)(f:Flow)(s':Shared):Prop:=match f with
 | .next=>Nx J kn Q U oa c s s'
 | .brk=>Nx J kb Q U oa c s s'
 | .ret m=>Rt J Q m s'
 | .cont=>False
structure Jx.Fn(J:Jx):Prop where
 fl:J.fl=true
 i:injΓ J.Γ=true
 o:∃outer L,J.l=J.env::outer/\J.env.frame=some L
def Nx.of(I:J.I ρ oa σ c s)(p:Po c s σ' c' s')(w:Wt J.cl (kn ρ σ') Q U):Nx J kn Q U oa c s s':={ρ,oa,σ',c',w,p.st.kp,.inl rfl,I.next p}
def qJ{J:Jx}{oa TG:Addr}{h:Heap}(b:TG=oa∨h.get? TG=none):∀a∈J.D TG,a∈J.D oa∨h.get? a=none:=λ a m=>PM.qJ b a m
def Nx.then{a:Cx}{s₁:Shared}(d:Kp (J.D oa) c s.heap a s₁.heap)(b:TG=oa∨s.heap.get? TG=none)(z:Nx J kn Q U TG a s₁ s'):Nx J kn Q U oa c s s':=z.casesOn λ ρ o σ c' w g f i=>{ρ,o,σ,c',w,d.trans g (qJ b),f.elim (λ e=>e▸b) λ e=> .inr (d.none_of e),i}
def Fp.then{a:Cx}{s₁:Shared}{f:Flow}(d:Kp (J.D oa) c s.heap a s₁.heap)(b:TG=oa∨s.heap.get? TG=none)(z:Fp J kn kb Q U TG a s₁ f s'):Fp J kn kb Q U oa c s f s':=match f,z with
 | .next,z=>Nx.then d b z
 | .brk,z=>Nx.then d b z
 | .ret _,z=>z
def SX(J:Jx)(st:Stmt)(ρ:En)(oa:Addr)(σ:St)(kn kb:Kn)(Q:VS)(U:VS):Prop:=∀c s,J.I ρ oa σ c s->wpAny M0 J.A (exec st J.env) (Fp J kn kb Q U oa c s) (XP J U) s
def SS(J:Jx)(b:List Stmt)(ρ:En)(oa:Addr)(σ:St)(kn kb:Kn)(Q:VS)(U:VS):Prop:=∀c s,J.I ρ oa σ c s->wpAny M0 J.A (execs b J.env) (Fp J kn kb Q U oa c s) (XP J U) s
def P8(y:Y):Prop:=∀{J:Jx} {st ρ oa σ kn kb Q U},J.Fn->QS J.S y st=true->Wt J.cl (ex J.n y ρ σ kn kb) Q U->SX J st ρ oa σ kn kb Q U
def P7(a:List Y):Prop:=∀{J:Jx} {b ρ oa σ kn kb Q U},J.Fn->e4 J.S a b=true->Wt J.cl (ao J.n a ρ σ kn kb) Q U->SS J b ρ oa σ kn kb Q U
def EV.go{x:X}{E:Expr}{f:V->St->bX}{a:VP}(b:ck J.S x E=true)(h:Wt J.cl (bT (ev x ρ σ) f) Q U)(I:J.I ρ oa σ c s)(k:∀{m s' v σ' c'},Wt J.cl (f v σ') Q U->Po c s σ' c' s'->Rp c' s'.heap v m->J.I ρ oa σ' c' s'->a m s'):wpAny M0 J.A (eval E J.env) a (XP J U) s:=
 az ((qK x b).v h.b c s I) (λ ζ ζ z=>z.casesOn λ v σ' c' q p r=>k q p r (I.next p)) λ ζ ζ x=>x
def SS.at{b:List Stmt}{d:Cx}{s₁:Shared}{a:St}(h:SS J b ρ oa a kn kb Q U)(I:J.I ρ oa σ c s)(p:Po c s a d s₁):wpAny M0 J.A (execs b J.env) (Fp J kn kb Q U oa c s) (XP J U) s₁:=az (h _ _ (I.next p)) (λ ζ ζ z=>z.then p.st.kp (.inl rfl)) λ ζ ζ x=>x
def Ng{x:X}:P8 (.expr x):=λ {J st ρ oa σ kn kb Q U} F a h c s I=>q9 (λ st=>wpAny M0 J.A (exec st _) _ _ s) a λ e p a=>exec_Expr _ e p (by unfold interactive;rw [I.er.fk];rfl) (kM (nt (an a).1))▸af (eM (af (EV.go (an a).2 h I λ q p r b=>wpAny_dropValue (.of I p q))))
def PA:P8 .brk:=λ {J st ρ oa σ kn kb Q U} F a h c s I=>Kh (λ st=>wpAny M0 J.A (exec st _) _ _ s) a λ p ζ=>wpAny_Break (.of I (.refl I.g) h)
def Rt.of{v:V}{m:Value}(I:J.I ρ oa σ c s)(q:Q v σ)(r:Rp c s.heap v m):Rt J Q m s:={v,σ,c,q,Inv.uI I,Rep.mono (Cx.fv I.g.ok (Inv.st I)) _ _ r}
def Pu{x:X}:P8 (.ret x):=λ {J st ρ oa σ kn kb Q U} F a h c s I=>ur (λ st=>wpAny M0 J.A (exec st _) _ _ s) a λ e p a=>e9 (λ e=>wpAny M0 J.A (exec (.Return e p) _) _ _ s) a λ e a=>
 Bm (az ((qK x a).v h c s I) (λ m b z=>z.casesOn λ v σ' c' q p r=>Rt.of (I.next p) q r) λ ζ ζ x=>x)
def Pz{x:X}{a b:List Y}(i:P7 a)(j:P7 b):P8 (.ifs x a b):=λ {J st ρ oa σ kn kb Q U} F d h c s I=>N3 (λ st=>wpAny M0 J.A (exec st _) _ _ s) d λ t k l p d=>by
 refine af (eM (af (az ((qK x (an d).1).t h.tb c s I) (λ t g z=>z.casesOn λ e f q p=> ?_) λ ζ ζ x=>x)));cases t with
 | true=>exact (i F (an (an d).2).1 q).at I p
 | false=>exact (j F (an (an d).2).2 q).at I p
def Py:P7 []:=λ {J b ρ oa σ kn kb Q U} F a h c s I=>b4 (λ b=>wpAny M0 J.A (execs b _) _ _ s) a (Bc (.of I (.refl I.g) h))
def Nh{y:Y}{e:List Y}(j:P8 y)(k:P7 e):P7 (y::e):=λ {J b ρ oa σ kn kb Q U} F a h c s I=>by
 cases b with
 | nil=>exact c4 a
 | cons st b=>
  refine af (az (j F (an a).1 h c s I) (λ f d z=> ?_) λ ζ ζ x=>x);cases f with
  | next=>exact Nx.casesOn z λ ρ' o σ' c' w l g i=>az (k F (an a).2 w c' _ i) (λ ζ ζ z=>z.then l g) λ ζ ζ x=>x
  | brk=>exact aD z
  | ret m=>exact aD z
  | cont=>exact z.elim
end
section
variable{J:Jx}{ρ ρ':En}{oa TG:Addr}{σ σ':St}{c c':Cx}{s s':Shared}{U:VS}{Q:VS}{kn kb:Kn}{x:X}
def XN(J:Jx)(U:VS)(e:Value)(s:Shared):Prop:=notedBy M0 J.A J.env (λ e s=>cameBackBy M0 J.A J.env (XP J U) e s) e s
inductive XF(J:Jx)(U:VS)(v e:Value)(s:Shared):Prop
 | mk (wy:Str) (rr cc:Int) (σ:St) (c:Cx) (ρ:En) (oa:Addr) (h:U (.exc wy rr cc) σ) (i:J.I ρ oa σ c s) (a:Addr) (ea:e= .ref a) (q:Rp c s.heap (.exc wy rr cc) (.ref a)) (x:eS c s.heap a (some v)):XF J U v e s
def XP.note{e}{L}{g}{E}(F:J.Fn)(h:J.env.frame=some L)(x:XP J U e s)(k:∀s',XF J U (rawInt L) e s'->g () s'):wpAny M0 J.A (noteFrame e J.env) g E s:=F.o.elim λ f z=>z.elim λ i z=>x.casesOn λ o n j σ' c' ρ oa m I a p l q ex d=>by
 subst l;exact oK I.g.ok I.g.cF (I.rm.fr.trans (congrArg _ z.1)) h (z.1▸I.fo) ex (d.imp id λ y=>y.imp id λ y=>y.elim λ i y=>ar (h.symm.trans y.1)▸y.2) I.g.lt λ r st b=>k _ {o,n,j,σ',c',ρ,oa,m,I.qt st,a,rfl,Rep.step I.g.ok st.st _ _ q,b}
def XF.up{M}{A}{v e}{f}{d}{E}(x:XF J U v e s)(k:∀s',XF J U (f.elim .none λ f=>rawInt f) e s'->d () s'):wpAny M A (setFlight e f) d E s:=x.casesOn λ l j g σ' c' ρ oa i I a h q ex=>by
 subst h;exact iQ I.g.ok ex λ m st b=>k _ {l,j,g,σ',c',ρ,oa,i,I.qt st,a,rfl,Rep.step I.g.ok st.st _ _ q,b}
def XP.yJ{e}(F:J.Fn)(x:XP J U e s):XN J U e s:=F.o.elim λ d z=>z.elim λ L z=>x.note F z.2 λ s' x=>x.casesOn λ k j f σ' c' ρ oa i I a g q ex=>by
 subst g;exact Cd I.g.ok z.2 ex λ h st b=>{k,j,f,σ',c',ρ,oa,i,I.qt st,a,_,rfl,Rep.step I.g.ok st.st _ _ q,b,.inr (.inr ⟨L,z.2,rfl⟩)}
def Cp(J:Jx)(kn:Kn)(Q:VS)(U:VS)(oa:Addr)(c:Cx)(s:Shared)(a:Result)(s':Shared):Prop:=match a with
 | .ok f=>Fp J kn aP Q U oa c s f s'
 | .error e=>cameBackBy M0 J.A J.env (XP J U) e s'
def Fp.lp{f}{s₁:Shared}(z:Fp J kn aP Q U oa c s f s'):Fp J kn kb Q U oa c s f s':=match f,z with
 | .next,z=>z
 | .brk,z=>Nx.casesOn z λ ζ ζ ζ ζ w ζ ζ ζ=>w.bad
 | .ret _,z=>z
def Cp.then{a}{s₁}{b}(e:Kp (J.D oa) c s.heap a s₁.heap)(d:TG=oa∨s.heap.get? TG=none)(z:Cp J kn Q U TG a s₁ b s'):Cp J kn Q U oa c s b s':=match b,z with
 | .ok _,z=>Fp.then e d z
 | .error _,z=>z
def M5{t}{a}{b}(u:P7 b)(F:J.Fn)(k:ck J.S x t=true)(l:e4 J.S b a=true):∀n {ρ oa σ c s},Wt J.cl (x9 (λ ρ σ=>ev x ρ σ) (λ ρ σ kn kb=>ao J.n b ρ σ kn kb) kn n ρ σ) Q U->J.I ρ oa σ c s->codeAny M0 J.A (.whileLoop t a [] J.env) (Cp J kn Q U oa c s) s:=by
 intro n
 induction n with
 | zero=>exact λ h ζ=>h.bad
 | succ n v=>
  intro ρ oa σ c s h I;refine x_ (az ((qK x k).t h.tb c s I) (λ t g z=>z.casesOn λ d e q p=> ?_) λ ζ ζ x=>x.yJ F);cases t with
  | false=>exact Bc (Nx.of I p q)
  | true=>
   refine az (SS.at (u F l q) I p) (λ f j z=> ?_) λ ζ ζ x=>x.yJ F;cases f with
   | next=>exact Nx.casesOn z λ ρ' o σ' c' w y r i=>codeAny_mono (v w i) λ ζ ζ z=>z.then y r
   | brk=>exact z
   | ret m=>exact z
   | cont=>exact z.elim
def Pm{b}(g:P7 b):P8 (.gp x b):=λ {J st ρ oa σ kn kb Q U} F a h c s I=>Ka (λ st=>wpAny M0 J.A (exec st _) _ _ s) a λ t f e p a=>b4 (λ e=>wpAny M0 J.A (exec (.While t _ e p) _) _ _ s) (an a).1<|
 wpAny_While (codeAny_mono (M5 g F (an (an a).2).1 (an (an a).2).2 _ h I) λ d s' z=>match d,z with
  | .ok _,z=>Fp.lp (s₁:=s') z
  | .error _,z=>z)
inductive zt(J:Jx)(t:Tg)(b:List Y)(kn:Kn)(Q:VS)(U:VS)(l:List V)(oa:Addr)(c:Cx)(s:Shared)(wr fp:List Addr)(TC:List Value)(l0:List V)(St:Nat->Heap->Prop)(n:Nat)(s':Shared):Prop
 | mk (i:Nat) (ρ:En) (σ:PM.St) (c':Cx) (o:Addr) (en:n=l.length-i) (hi:i<=l.length) (w:Wt J.cl (forL t (λ ρ σ kn kb=>ao J.n b ρ σ kn kb) kn (l.drop i) ρ σ) Q U) (I:J.I ρ o σ c' s') (kp:Kp (J.D oa) c s.heap c' s'.heap) (ho:o=oa∨s.heap.get? o=none) (M:fT (J.K ρ o) J.fl c' s' wr fp TC l0) (st:St i s'.heap):zt J t b kn Q U l oa c s wr fp TC l0 St n s'
structure Lx(J:Jx)(TF:Expr)(l:List V)(c:Cx)(s:Shared)(Ia:Addr)(wr fp:List Addr)(TC:List Value)(l0:List V)(Val:Nat->Heap->Value->Heap->Prop)(St:Nat->Heap->Prop):Prop where
 src:Src J.A Ia wr fp TF l TC l0 Val St
 fr:∀b∈wr,s.heap.get? b=none
 QM:∀b∈wr,J.s₀.heap.get? b=none
 nH:∀b∈wr,b∉c.H
def Tn(J:Jx)(t:Tg)(b:List Y)(kn:Kn)(Q:VS)(U:VS)(l:List V)(oa:Addr)(c:Cx)(s:Shared)(wr d:List Addr)(a:List Value)(e:List V)(St:Nat->Heap->Prop)(n:Nat)(f:Flow)(s':Shared):Prop:=match f with
 | .next=>∃m,m<n/\zt J t b kn Q U l oa c s wr d a e St m s'
 | .cont=>∃m,m<n/\zt J t b kn Q U l oa c s wr d a e St m s'
 | .brk=>Nx J kn Q U oa c s s'
 | .ret m=>Rt J Q m s'
section
variable{t:Tg}{TF:Expr}{body:List Stmt}{b:List Y}{l l0:List V}{Ia:Addr}{wr fp:List Addr}{TC:List Value}{Val:Nat->Heap->Value->Heap->Prop}{St:Nat->Heap->Prop}{i:Nat}
def Ec(A:P7 b)(F:J.Fn)(y:e4 J.S b body=true)(L:Lx J TF l c s Ia wr fp TC l0 Val St)(d:i<l.length)(w:Wt J.cl (ao J.n b ρ σ (λ ρ σ=>forL t (λ ρ σ kn kb=>ao J.n b ρ σ kn kb) kn (l.drop (i+1)) ρ σ) kn) Q U)(I:J.I ρ TG σ c' s')(k:Kp (J.D oa) c s.heap c' s'.heap)(j:TG=oa∨s.heap.get? TG=none)(M:fT (J.K ρ TG) J.fl c' s' wr fp TC l0)(st:St (i+1) s'.heap):
 wpAny M0 J.A (execs body J.env) (Tn J t b kn Q U l oa c s wr fp TC l0 St (l.length-i)) (XN J U) s':=
 az (A F y w c' s' I) (λ f q z=>by
  cases f with
  | next=>exact Nx.casesOn z λ o B p v C h g r=>(M.kp L.src I.g.ok (λ a m=>(Inv.dh I a m).1) st h g).elim λ u n=>{l.length-(i+1),Nat.sub_succ_lt_self _ _ d,i+1,o,p,v,B,rfl,d,C,r,k.trans h (qJ j),g.elim (λ e=>e▸j) λ z=> .inr (k.none_of z),u,n}
  | brk=>exact Nx.then k j z
  | ret m=>exact z
  | cont=>exact z.elim) λ ζ ζ x=>x.yJ F
def D_(Z:P7 b)(F:J.Fn)(N:ib J.Γ t TF=true)(P:(c5 TF).all (cA J.κ true)=true)(S:freeOf J.ow (bw t)=true)(f:e4 J.S b body=true)(L:Lx J TF l c s Ia wr fp TC l0 Val St)(h:i<l.length){v}{g}{tk}
 (w:Wt J.cl (forL t (λ ρ σ kn kb=>ao J.n b ρ σ kn kb) kn (l.drop i) ρ σ) Q U) (I:J.I ρ TG σ c' s') (kp:Kp (J.D oa) c s.heap c' s'.heap) (D:TG=oa∨s.heap.get? TG=none) (M:fT (J.K ρ TG) J.fl c' s' wr fp TC l0) (W:Val i s'.heap v g) (st:St (i+1) g) (C:∀b o,b∉wr->s'.heap.get? b=some o->g.get? b=some o):
 wpAny M0 J.A (assign TF J.env v) (λ ζ r=>wpAny M0 J.A (execs body J.env) (Tn J t b kn Q U l oa c s wr fp TC l0 St (l.length-i)) (XN J U) r) (XN J U) {s' with heap:=g,toks:=tk}:=by
 rw [LX h] at w;refine w.on λ ρ2 H w=> ?_;have u:eu c' _ g wr:={λ b f=>(M.w b f).1,λ b f=>(M.w b f).2.1,C,λ b f=>(L.src.live _ g st b f).elim λ o j=>j.elim λ T j=>⟨o,j.1⟩};have z:J.I ρ TG σ c' _:=Inv.eZ (t:=tk) I (λ ζ ζ ζ q=>(M.w _ q).2.2.2 (Ct.zu F.fl)) (λ y cc e q=>(M.w _ q).2.2.2 (Ct.lu F.fl e)) u (λ b f=>(M.w b f).2.2.1) (λ b f=>(M.w b f).2.2.2) L.QM;exact zr t F.i N (F.fl▸P) S H z (L.src.rep _ c' i _ v g _ (cQ h) I.g.low (M.r.eZ u) W) λ s4 E p=>(({M.w,λ b f=>(M.f b f).imp id λ d=>d.elim λ n d=>d.elim λ T d=>d.elim λ A d=>d.elim λ k d=>{n,T,A,k,C b _ (λ q=>n (M.w b q).1) d},M.r.eZ u}:fT _ _ c' _ wr fp _ l0).kp L.src z.g.ok (λ a m=>(Inv.dh z a m).1) st p (.inl rfl)).elim λ G B=>Ec Z F f L h w E ((kp.trans (u.kp λ b f=>f) λ a m=> .inr (L.fr a m)).trans p (qJ D)) D G B
def Ea(F:J.Fn)(L:Lx J TF l c s Ia wr fp TC l0 Val St){d}{tk}(w:Wt J.cl (kn ρ σ) Q U)(I:J.I ρ TG σ c' s')(h:Kp (J.D oa) c s.heap c' s'.heap)(g:TG=oa∨s.heap.get? TG=none)(M:fT (J.K ρ TG) J.fl c' s' wr fp TC l0)(f:∀b o,b∉wr->s'.heap.get? b=some o->d.get? b=some o):Nx J kn Q U oa c s {s' with heap:=d,toks:=tk}:=
 have u:={λ b a=>(M.w b a).1,λ b a=>(M.w b a).2.1,λ b a=>(M.w b a).2.2.1,f}
 {ρ,TG,σ,_,w,u.kp h L.fr L.nH,g,Inv.drop I (λ ζ ζ ζ q=>(M.w _ q).2.2.2 (Ct.zu F.fl)) (λ y j e q=>(M.w _ q).2.2.2 (Ct.lu F.fl e)) u (λ b a=>(M.w b a).2.2.2) L.QM}
def Eb(M:P7 b)(F:J.Fn)(D:ib J.Γ t TF=true)(E:(c5 TF).all (cA J.κ true)=true)(G:freeOf J.ow (bw t)=true)(H:e4 J.S b body=true)(L:Lx J TF l c s Ia wr fp TC l0 Val St)(z:zt J t b kn Q U l oa c s wr fp TC l0 St (l.length-0) s'):
 codeAny M0 J.A (.forLoop TF (.ref Ia) body [] J.env) (Cp J kn Q U oa c s) s':=by
 refine codeAny_forLoop_any _ ?_ _ z;intro n s' z;obtain ⟨i,ρ',σ',c',o,e,j,w,q,g,d,r,h⟩:=z;subst e;by_cases a:i<l.length
 ·refine az (L.src.next i s' _ _ a h λ v C N I p k=>D_ M F D E G H L a w q g d r I p k) (λ o u z=> ?_) λ ζ ζ z=>z;obtain ⟨v,e,z⟩:=z;subst e;exact az z (λ ζ y z=>az z (λ ζ A z=>az z λ f B z=>by assumption λ ζ ζ x=>x) λ ζ ζ x=>x) λ ζ ζ x=>x
 ·have m:=Bb j (xp a);subst m;rw [List.drop_length] at w;exact L.src.done s' _ _ h λ C N k=>Bc (Ea F L w q g d r k)
def Mc{A}(H:P7 b)(F:J.Fn)(D:ib J.Γ t TF=true)(E:(c5 TF).all (cA J.κ true)=true)(G:freeOf J.ow (bw t)=true)(d:e4 J.S b body=true)(I:J.I ρ oa σ c s)(z:Sd J TF (λ l σ=>Wt J.cl (forL t (λ ρ σ kn kb=>ao J.n b ρ σ kn kb) kn l ρ σ) Q U) c s A s'):
 codeAny M0 J.A (.forLoop TF A body [] J.env) (Cp J kn Q U oa c s) s':=z.casesOn λ l j g B q L p M=>M.casesOn λ Ia wr fp TC l0 Val St v C n r h y N=>by
 subst C;have a:=I.next p;have u:Po _ _ _ _ s':=.d7 a.g v.keep v.gens v.os h λ b d=>(n.live 0 _ r b d).elim λ o z=>z.elim λ T z=>⟨o,z.1⟩;have k:=λ b d=>p.st.none_of (h b d);have f:∀b∈wr,b∉g.H:=λ b d m=>(a.g.low b m).elim λ o e=>aQ ((h b d).symm.trans e);exact Eb H F D E G d {n,k,λ b d=>(Inv.st I).none_of (k b d),λ b d m=>f b d (p.st.bz _ m)} {0,ρ,j,g.d7 wr,oa,rfl,m_ _,q,a.next u,(p.trans u).st.kp,.inl rfl,{λ b d=>{sI _ d,a.g.ok.no (f b d),a.g.ok.cF (f b d),λ q=>f b d (Inv.dh a b q).1},λ b d=>(y b d).imp id λ z=>{u.st.vN z.2.choose_spec.choose_spec.choose_spec z.1,_,_,_,v.keep _ _ z.2.choose_spec.choose_spec.choose_spec},aj.step a.g.ok u.st _ _ N},r}
theorem Cp.lp:∀{a},Cp J kn Q U oa c s a s'->(match a with | .ok f=>Fp J kn kb Q U oa c s f s' | .error e=>cameBackBy M0 J.A J.env (XP J U) e s')
 | .ok _,z=>Fp.lp (s₁:=s') z
 | .error _,z=>z
def Mb{iter}{pos}{a}(o:P7 b)(F:J.Fn)(f:cq iter=true)(g:ib J.Γ t TF=true)(j:(c5 TF).all (cA J.κ true)=true)(k:freeOf J.ow (bw t)=true)(m:pS J.S a iter TF=true)(n:e4 J.S b body=true)(h:Wt J.cl (bT (i3 a ρ σ) λ l σ=>forL t (λ ρ σ kn kb=>ao J.n b ρ σ kn kb) kn l ρ σ) Q U):SX J (.For TF iter body [] pos) ρ oa σ kn kb Q U:=λ c s I=>wpAny_For (az (L9 a m h.b c s I) (λ x d z=>az z (λ a e z=>codeAny_mono (Mc o F g j k n I z) λ p s' z=>z.lp) λ ζ ζ x=>x) λ ζ ζ x=>x) (xB f)
end
def Nf{t}{l}{b}(k:P7 b):P8 (.e3 t l b):=λ {J st ρ oa σ kn kb Q U} F a h=>Ke (λ st=>SX J st ρ oa σ kn kb Q U) a λ g j i e f a=>b4 (λ e=>SX J (.For g _ _ e f) ρ oa σ kn kb Q U) (an a).1
 (have d:=an (an (an (an a).2).2).2
 Mb k F (an (an a).2).1 (an (an (an a).2).2).1 d.1 (an d.2).1 (an (an d.2).2).1 (an (an d.2).2).2 h)
end
section
variable{J:Jx}{ρ ρ':En}{oa TG:Addr}{σ σ':St}{c c':Cx}{s s':Shared}{U:VS}{Q:VS}{kn kb:Kn}{x v k:X}{T value:Expr}{pos:Pos}{E:VP}{Qf:Flow->Shared->Prop}
def Nx.st{b}{s₁}{a}(p:Po c s a b s₁)(w:Wt J.cl (kn ρ' a) Q U)(I:J.I ρ' oa a b s')(d:Kp (J.D oa) b s₁.heap b s'.heap):Nx J kn Q U oa c s s':={ρ',oa,a,b,w,p.st.kp.trans d λ ζ m=> .inl m,.inl rfl,I}
def gD(I:J.I ρ oa σ c s)(d:noStar T=true)(a:jL value=false)(b:gH J.κ [T] value=some none)(h:wpAny M0 J.A (eval value J.env) (λ m s=>wpAny M0 J.A (assign T J.env m) (λ ζ s=>Qf .next s) E s) E s):wpAny M0 J.A (exec (.Assign [T] value pos) J.env) Qf E s:=PM.gD I d a b h
def Nn{t}(F:J.Fn)(d:Gk J.S t x T value=true)(h:Wt J.cl (bT (ev x ρ σ) λ v σ=>aF (dR t v ρ) λ ρ=>kn ρ σ) Q U):SX J (.Assign [T] value pos) ρ oa σ kn kb Q U:=λ c s I=>
 have f:=an (an (an (an d).2).2).2
 gD I (an d).1 (nt (an f.2).1) (bq (an (an f.2).2).1) (EV.go (an (an f.2).2).2 h I λ q p r a=>q.on λ ρ' e w=>zr t F.i (an (an d).2).1 (F.fl▸(an (an (an d).2).2).1) f.1 e a r λ s' b g=>Nx.st p w b g)
def Ex{M}{A}{c}{E}(F:J.Fn)(L):∀{ρ} {s} {vs} {mvs} {T},(∀p∈L,J.Γ.lookup p.1=some p.2/\cA J.κ true p.1=true/\J.ow≠some p.2)->L.length=vs.length->J.I ρ oa σ c s->cy c s.heap vs mvs->(∀s',J.I (mO L vs ρ) oa σ c s'->Kp (J.D oa) c s.heap c s'.heap->T () s')->wpAny M A (assignInOrder (L.map λ p=>bindName J.env p.1) mvs) T E s:=by
 induction L with
 | nil=>
  intro ρ s vs mvs T b g I r k;cases vs with
  | cons _ _=>contradiction
  | nil=>exact Bx (k s I (.refl ..))
 | cons p L j=>
  intro ρ s vs mvs T b g I r k;cases vs with
  | nil=>contradiction
  | cons v vs=>
   exact r.elim λ m r=>r.elim λ l r=>r.1▸u_ (wpAny_bindName (lJ I (b p (.head _)).1 F.i (F.fl▸jg (b p (.head _)).2.1) (b p (.head _)).2.2 r.2.1 λ s' i h=>j (λ q m=>b q (.tail _ m)) (sx g) i (h.bN I.g.ok (λ a m=>(Inv.dh I a m).1) r.2.2) λ f d e=>k f d (h.trans e λ a m=> .inl m)))
def ud{es vs}{l f}{p g}{d}(I:J.I ρ oa σ c s)(i:gH J.κ [.Tuple es l p] (.Tuple vs f g)=some (some d))(h:wpAny M0 J.A (eval (.Tuple vs f g) J.env) (λ m s=>∃a mvs,m= .ref a/\mvs.length=d.length/\SeqAt s.heap a "tuple" mvs/\∀s',PK s s'->wpAny M0 J.A (assignInOrder (d.reverse.map λ n=>bindName J.env n) mvs.reverse) (λ ζ s=>Qf .next s) E s') E s):wpAny M0 J.A (exec (.Assign [.Tuple es l p] (.Tuple vs f g) pos) J.env) Qf E s:=by
 refine af (eM (af (oX (show swapsWith (.Tuple vs f g) (some (.Tuple es l p)) pos.line J.env=pure _ from kM rfl) (af (az h (λ m q z=> ?_) λ ζ ζ x=>x)))));obtain ⟨a,mvs,e,r,u,z⟩:=z;subst e;exact af (oX (zI I.er.fk I.er.kn i) (r▸af (wpAny_rule (af (unpackItems_tuple I.rm.hd u.isTup λ y t=>af (az (z _ {λ b o e=>t b o (jG (fY e)) e,rfl,rfl}) (λ ζ ζ z=>aD z) λ ζ ζ x=>x)))):wpAny _ _ (do rule _;let j ←unpackItems _ _ _;assignInOrder _ _;pure _) _ _ _))
def Jd{f}{es vs}{u l}{y n}(F:J.Fn)(A:jf J.Γ f es=true)(B:(gu es).all (cA J.κ true)=true)(C:freeOf J.ow (fE f)=true)(D:gH J.κ [.Tuple es u y] (.Tuple vs l n)=some (some ((dJ es f).map (·.1))))(t:B9 es f=true)(G:((dJ es f).map (·.2)).Nodup)(H:ck J.S x (.Tuple vs l n)=true)
 (h:Wt J.cl (bT (ev x ρ σ) λ v σ=>aF (dR (.tup f) v ρ) λ ρ=>kn ρ σ) Q U):SX J (.Assign [.Tuple es u y] (.Tuple vs l n) pos) ρ oa σ kn kb Q U:=λ c s I=>
 ud I D (EV.go H h I λ q p r b=>q.on λ ρ' e w=>ab e λ P L e=>by
  cases V.rX L;have g:=yl t e;refine r.elim λ a q=>q.elim λ i d=>{a,i,d.1,by simp [d.2.2.2.length,g.2.2],d.2.2.1,λ s' j=> ?_};rw [←List.map_reverse,uX];refine Ex F _ (λ p m=> ?_) (by simp [g.2.2]) (b.next (j.post b.g)) (j.bN b.g.ok d.2.2.2).rev λ N o M=> ?_
  ·have z:=v8 t A p (Bh.mp m);exact {z.1,gy.mp B _ z.2.2,iH C z.2.1}
  ·rw [C7 G g.2.1 g.2.2,←g.1] at o
   exact Nx.st (p.trans (j.post b.g)) w o M)
def GO{n}{o}{p}(j:fa aL n=true)(g:ck J.S v value=true)(i:ck J.S x o=true)(h:Wt J.cl (bT (ev v ρ σ) λ v σ=>bT (ev x ρ σ) λ w σ=>aF (tx σ w [n] v) λ σ=>kn ρ σ) Q U):SX J (.Assign [.Attribute o n p] value pos) ρ oa σ kn kb Q U:=λ c s I=>
 plainObj_wpAny_Assign_Attribute (EV.go g h I λ q p r a=>EV.go i q a λ q f m b=>q.on λ d e w=>lN b.g j e m (f.rp a.g.ok r) λ s' l=>Nx.of I ((p.trans f).trans l) w) rl
def J0{d}{w u}(f:2<=d.length)(e:tx σ w d u=some σ'):∃vs,u.t? =some vs/\jv σ w d vs=some σ':=by
 cases d with
 | nil=>contradiction
 | cons a l=>cases l with
  | nil=>exact absurd f (FX 1)
  | cons b l=>exact ja e
def C8{es}{F}{H}{y}{i}{g}(S:jL value=false)(n:gH J.κ [.Tuple es F H] value=some none)(t:kF J.S i y=true)(l:gC y g es=true)(P:g.all (fa aL)=true)(W:2<=g.length)(L:ck J.S v value=true)
 (h:Wt J.cl (bT (ev v ρ σ) λ v σ=>bT (ev (.loc i) ρ σ) λ w σ=>aF (tx σ w g v) λ σ=>kn ρ σ) Q U):SX J (.Assign [.Tuple es F H] value pos) ρ oa σ kn kb Q U:=λ c s I=>
 gD I rfl S n (EV.go L h I λ {m j u A C} q p r d=>Wt.o q.b λ w hw q=>q.on λ B e wt=>by
  obtain ⟨vs,Z,D⟩:=J0 W e;cases V.rX Z;obtain ⟨a,mvs,M,na,sq,G⟩:=r;subst M;have f:=fN (env:=J.env) (lq l).1;refine assign_Tuple_tuple I.rm.hd sq.isTup (by simp [f.2.1,G.length,←um D,(lq l).2]) f.2.2 λ N hx=> ?_;have z:PK _ {j with heap:=N}:=⟨λ b o e=>hx b o (jG (fY e)) e,rfl,rfl⟩
  exact f.1▸EG (K:=J.K ρ oa) (f6 t).1 (f6 t).2.1 (f6 t).2.2 hw g l P D (d.next (z.post d.g)) (z.bN d.g.ok G) λ s' p3=>Nx.of I ((p.trans (z.post d.g)).trans p3) wt)
def GN{o i}{p}(l:ck J.S v value=true)(m:ck J.S x o=true)(n:ck J.S k i=true)(h:Wt J.cl (bT (ev v ρ σ) λ v σ=>bT (ev x ρ σ) λ w σ=>bT (ev k ρ σ) λ k σ=>aF (setItem σ w k v) λ σ=>kn ρ σ) Q U):SX J (.Assign [.Subscript o i p] value pos) ρ oa σ kn kb Q U:=λ c s I=>
 wpAny_Assign_Subscript (EV.go l h I λ q p r a=>EV.go m q a λ q j u b=>EV.go n q b λ q f y d=>q.on λ g e w=>pX d.g (I.rm.u (by simp)) e (f.rp b.g.ok u) y (Po.rp (j.trans f) a.g.ok r) λ s' t=>Nx.of I (((p.trans j).trans f).trans t) w) w6
def yi{M}{A}{y}{i}{u}{b}{T}(F:J.Fn)(I:J.I ρ oa σ c s)(d:cA J.κ true y=true)(e:J.Γ.lookup y=some i)(a:J.ow≠some i)(r:Rp c s.heap u b)(k:∀s',J.I (ρ.set i (some u)) oa σ c s'->Kp (J.D oa) c s.heap c s'.heap->T () s'):wpAny M A (storeName J.env y b) T E s:=
 lJ I e F.i (F.fl▸jg d) a r k
def Ja{y}{i}{op}{B}(F:J.Fn)(o:cA J.κ true y=true)(z:kF J.S i y=true)(l:ck J.S v value=true)(h:Wt J.cl (aF (ay ρ i) λ a=>bT (ev v ρ σ) λ b σ=>aF (iV op a b) λ v=>kn (ρ.set i (some v)) σ) Q U):SX J (.AugAssign (.Name y B) op value pos) ρ oa σ kn kb Q U:=λ c s I=>h.on λ a n h=>
 have g:=f6 z;have ld:∀{T E},(∀j,Rp c _ a j->T j s)->wpAny M0 J.A _ T E s:=λ k=>Fz I.er g.2.1 n λ j r=>k j (r.rep g.2.2)
 wpAny_AugAssign_Name (ld λ G C=>EV.go l h I λ q p r d=>q.on λ u e w=>n3 e (p.rp I.g.ok C) r λ m t D=>yi F (d.next (.toks d.g)) o g.2.1 g.2.2 D λ s' f A=>Nx.st (p.trans (.toks d.g)) w f A)
def Mf{a}(d:flat v=true)(h:Wt a (ev v ρ σ) Q U):Wt a (ev v ρ σ) (λ b σ'=>σ'=σ/\Q b σ) U:=h.elim λ r h=>(Ir d h.1).elim λ b e=>{r,h.1,by subst e;exact ⟨rfl,h.2⟩}
theorem EV.flat{E}{f:V->St->bX}{a}(d:flat v=true)(b:ck J.S v E=true)(h:Wt J.cl (bT (ev v ρ σ) f) Q U)(I:J.I ρ oa σ c s)(k:∀{m s' v c'},Wt J.cl (f v σ) Q U->Po c s σ c' s'->Rp c' s'.heap v m->a m s'):wpAny M0 J.A (eval E J.env) a (XP J U) s:=
 az ((qK v b).v (Mf d h.b) c s I) (λ ζ ζ z=>z.casesOn λ v σ' c' q p r=>k q.2 (q.1▸p) r) λ ζ ζ x=>x
def Jb{n}{op}{w a b}{A o q}{i}(g:Gd aL Pw σ c s.heap)(l:fa aL n=true)(e:fw σ n w=some a)(h:oe (mG op σ w n b) (ae (iV op a b) λ r=>hO σ w n r)=some σ')(D:Rp c s.heap w A)(B:Rp c s.heap a o)(C:Rp c s.heap b q)(k:∀s',Po c s σ' c s'->i () s'):
 wpAny M0 J.A (inplaceOp op o q) (λ m s=>wpAny M0 J.A (setAttr A n m) i E s) E s:=
 have d {t}:Po c s σ c _:=.toks g
 aO h (λ h=>(zx h).elim λ j z=>z.elim λ b z=>z.elim λ H z=>z.elim λ u z=>by
  have y:=(zw z.1 z.2.2).1 (j▸e);subst j
  exact n3 (y.2.symm▸z.2.1) B C λ m t f=>NG y.1 d.good l z.1 D f λ s' p=>k s' (d.trans p)) λ h=>ab h λ u F G=>n3 F B C λ m t f=>lN (d (t:=t)).good l G D f λ s' p=>k s' (d.trans p)
def I9{op}{w d a b}{A q n o}{l}(g:Gd aL Pw σ c s.heap)(M:J.A.units+10<cLine)(e:itemOf σ w d=some a)(h:oe (ae d.s? λ m=>mG op σ w m b) (ae (iV op a b) λ r=>setItem σ w d r)=some σ')(F:Rp c s.heap w A)(D:Rp c s.heap d q)(B:Rp c s.heap a n)(C:Rp c s.heap b o)(k:∀s',Po c s σ' c s'->l () s'):
 wpAny M0 J.A (inplaceOp op n o) (λ m s=>wpAny M0 J.A (PySem.setItem A q m) l E s) E s:=
 have f {t}:Po c s σ c _:=.toks g
 aO h (λ h=>ab h λ y N h=>(zx h).elim λ L z=>z.elim λ b z=>z.elim λ P z=>z.elim λ u z=>by
  subst L;cases V.jW N;have y:=(zw z.1 z.2.2).2 e
  exact D.elim λ S G=>G▸n3 (y.2.symm▸z.2.1) B C λ m t j=>NF y.1 f.good z.1 F j λ s' p=>k s' (f.trans p)) λ h=>ab h λ u H I=>n3 H B C λ m t j=>pX (f (t:=t)).good M I F D j λ s' p=>k s' (f.trans p)
def Jc{n}{o}{op}{C}(y:flat v=true)(m:bu aL n=true)(u:fa aL n=true)(i:ck J.S x o=true)(j:ck J.S v value=true)
 (h:Wt J.cl (bT (ev x ρ σ) λ w σ=>aF (fw σ n w) λ a=>bT (ev v ρ σ) λ b σ=>aF (oe (mG op σ w n b) (ae (iV op a b) λ r=>hO σ w n r)) λ σ=>kn ρ σ) Q U):SX J (.AugAssign (.Attribute o n C) op value pos) ρ oa σ kn kb Q U:=λ c s I=>
 wpAny_AugAssign_AttributeAny (EV.go i h I λ q p r d=>q.on λ a e q=>rR d.g m e r λ D t A=>
  EV.flat y j q (d.next (.toks d.g)) λ q f B=>q.on λ g l w=>Jb f.good u e l (f.rp d.g.ok r) (f.rp d.g.ok A) B λ s' z=>Nx.of I (((p.trans (.toks d.g)).trans f).trans z) w)
def I_{o i}{op}{L}(C:flat v=true)(j:lV i=true)(y:ck J.S x o=true)(z:ck J.S k i=true)(A:ck J.S v value=true)
 (h:Wt J.cl (bT (ev x ρ σ) λ w σ=>bT (ev k ρ σ) λ k σ=>aF (itemOf σ w k) λ a=>bT (ev v ρ σ) λ b σ=>aF (oe (ae k.s? λ m=>mG op σ w m b) (ae (iV op a b) λ r=>setItem σ w k r)) λ σ=>kn ρ σ) Q U):SX J (.AugAssign (.Subscript o i L) op value pos) ρ oa σ kn kb Q U:=λ c s I=>
 wpAny_AugAssign_SubscriptAny (EV.go y h I λ q p r f=>EV.go z q f λ q l u d=>q.on λ a e q=>xy d.g (I.rm.u (by simp)) e (l.rp f.g.ok r) u λ N t G=>
  EV.flat C A q (d.next (.toks d.g)) λ q g H=>q.on λ n B w=>I9 g.good (I.rm.u (by simp)) e B (Po.rp (l.trans (bc.trans (.toks d.g) g)) f.g.ok r) (g.rp d.g.ok u) (g.rp d.g.ok G) H λ s' F=>Nx.of I ((((p.trans l).trans (.toks d.g)).trans g).trans F) w) λ P M D=>by cases i<;>first | rfl | exact c4 j
end
section
variable{J:Jx}{ρ ρ':En}{oa TG:Addr}{σ σ':St}{c c':Cx}{s s':Shared}{U:VS}{Q:VS}{kn kb:Kn}{x v k:X}{T value o a:Expr}{pos apos sp:Pos}{E:VP}{Qf:Flow->Shared->Prop}{i:Nat}{l:List V}{y:Str}
def QZ{b}{es}{L}(d:eA J.S b es=true)(h:Wt J.cl (cw b ρ σ) L U)(I:J.I ρ oa σ c s):a6 M0 J.A J.env (XP J U) es (Lp L c s) s:=(kh (λ x ζ=>lz x) d h).seq I
def Wt.len{b}{L}(h:Wt J.cl (cw b ρ σ) L U):Wt J.cl (cw b ρ σ) (λ vs σ=>vs.length=b.length/\L vs σ) U:=h.elim λ r h=>{r,h.1,match r,h with
 | .ok vs σ,h=>{PE h.1 _ _ rfl,h.2}
 | .ex _ _,h=>h.2}
def rj(I:J.I ρ oa σ c s)(b:J.ow=some i)(e:J.Γ.lookup y=some i)(d:ay ρ i=some (.lst l)):∃mvs,SeqAt s.heap oa "list" mvs/\cy c s.heap l mvs/\oa∈c.H/\oa∉c.S/\oa∉c.Fs:=Ar I b e d
def Hy{ks}{vs}(I:J.I ρ oa σ c s)(b:J.ow=some i)(e:J.Γ.lookup y=some i)(d:ay ρ i=some (.bH ks vs)):∃mvs,DictAt Pw s.heap oa ks mvs/\cy c s.heap vs mvs/\oa∈c.H/\oa∉c.S/\oa∉c.Fs:=Hx I b e d
def rh{u}{d}(I:J.I ρ oa σ c s)(h:bo J.Γ i a=true)(b:J.ow=some i)(j:ay ρ i=some u)(k:∀y,J.Γ.lookup y=some i->bA Pw oa c s.heap u (.ref oa)->d (.ref oa) s):wpAny M0 J.A (eval a J.env) d E s:=by
 obtain ⟨y,p,e,g,f⟩:=jK h;subst e
 exact jE I.er g f j λ m q=>by
  have q:=q.own b;cases q.rf;exact k y f q
def wZ{l'}{mvs d}{f}(F:J.Fn)(I:J.I ρ oa σ c s)(g:J.ow=some i)(j:ay ρ i=some (.lst l))(b:oa∈c.H/\oa∉c.S/\oa∉c.Fs)(p:SeqAt s.heap oa "list" mvs)(e:f mvs.toArray=d.toArray)(m:cy c s.heap l' d):J.I (ρ.set i (some (.lst l'))) oa σ c {s with heap:=s.heap.update oa (Obj.mapSeq f)}/\Kp (J.D oa) c s.heap c (s.heap.update oa (Obj.mapSeq f)):=p.elim λ n h=>
 have u:={b.1,b.2.1,λ a q=>nA _ _ (Ne.symm q),{_,qr _ h rfl}}
 wX I F.fl g (by rw [j];rfl) u b.2.2 (.lst l' d b {_,e▸IsL.update h f} (m.off I.g.ok u))
def w1{M}{A}{u}{TG}{j}(F:J.Fn)(I:J.I ρ oa σ c s)(D:J.Γ.lookup y=some i)(C:ku J.κ y=true)(f:J.ow=some i)(g:PK s s')(d:s.heap.get? TG=none)(L:∃o,s'.heap.get? TG=some o)(r:TG∈(c.eK TG).H/\TG∉(c.eK TG).S/\TG∉(c.eK TG).Fs->Po c s σ (c.eK TG) s'->bA Pw TG (c.eK TG) s'.heap u (.ref TG))
 (k:∀b,J.I (ρ.set i (some u)) TG σ (c.eK TG) b->Kp (J.D oa) c s.heap (c.eK TG) b.heap->j () b):wpAny M A (storeName J.env y (.ref TG)) j E s':=by
 have p:Po c s σ _ s':=.eK I.g g.keep g.gens g.os d L;have n:TG∉c.H:=λ m=>(I.g.low _ m).elim λ o e=>aQ (d.symm.trans e);exact rZ (I.next p) D F.i ((w2 C).imp id λ h=>⟨F.fl,h⟩) f ((Inv.st I).none_of d) (λ q=>n (q▸(Inv.dl I).2)) (λ x B e q=>n (q▸(Inv.dh I B (Ct.lu F.fl e)).1)) (r {.head _,I.g.ok.no n,I.g.ok.cF n} p) λ t z G=>k _ z (p.st.kp.trans G λ a m=> .inl m)
def Nx.new{d}{s₁}{b}(p:Po c s b d s₁)(e:s₁.heap.get? TG=none)(w:Wt J.cl (kn ρ' b) Q U)(I:J.I ρ' TG b (d.eK TG) s')(f:Kp (J.D oa) d s₁.heap (d.eK TG) s'.heap):Nx J kn Q U oa c s s':={ρ',TG,b,_,w,p.st.kp.trans f λ ζ m=> .inl m,.inr (p.st.none_of e),I}
def Ft{M}{A}{m}{b}(h:isNm J.Γ i T=true)(d:mW J.κ T=true)(k:∀y,J.Γ.lookup y=some i->ku J.κ y=true->wpAny M A (storeName J.env y m) b E s):wpAny M A (assign T J.env m) b E s:=by
 cases T<;>first | exact c4 h | skip
 exact Bn (k _ (bq h) ((nc _).symm.trans d))
def rn(h:isNm J.Γ i T=true):noStar T=true:=by cases T<;>first | rfl | contradiction
def AG{e}{s₁}{d}{mvs}(F:J.Fn)(j:isNm J.Γ i T=true)(f:mW J.κ T=true)(g:J.ow=some i)(I:J.I ρ oa d e s₁)(p:Po c s d e s₁)(r:cy e s₁.heap l mvs)(w:Wt J.cl (kn (ρ.set i (some (.lst l))) d) Q U):
 wpAny M0 J.A (assign T J.env (.ref s₁.heap.objs.size)) (λ ζ s'=>Nx J kn Q U oa c s s') E {s₁ with heap:=s₁.heap.push {cls:=.type "list",data:=.seq mvs.toArray}}:=
 Ft j f λ y m f=>w1 F I m f g (.push _ _ _) (aE _) {_,dW _ rfl} (λ b p=> .lst l mvs b {0,dW _ rfl} (p.E5 I.g.ok r)) λ q h n=>Nx.new p (aE _) w h n
def HB{f}{es}{n}(F:J.Fn)(m:isNm J.Γ i T=true)(A:mW J.κ T=true)(b:J.ow=some i)(C:es.all noStar=true)(d:gH J.κ [T] (.List es n)=some none)(B:f.length<=1000)(u:eA J.S f es=true)(h:Wt J.cl (bT (cw f ρ σ) λ vs σ=>kn (ρ.set i (some (.lst vs))) σ) Q U):SX J (.Assign [T] (.List es n) pos) ρ oa σ kn kb Q U:=λ c s I=>
 gD I (rn m) rfl d (af (eM (af (a6.spliced C (a6.mono (λ ζ ζ x=>x) (λ e t z=>z.casesOn λ vs g j q p r=>oZ (AG F m A b (I.next p) p r q.2) (show e.toArray.size<=_ by simp [r.length,q.1];exact ag B ⋯)) (QZ u h.b.len I))))))
def DD{j}(F:J.Fn)(m:isNm J.Γ i T=true)(d:mW J.κ T=true)(f:J.ow=some i)(g:gH J.κ [T] (.Dict [] [] j)=some none)(h:Wt J.cl (kn (ρ.set i (some (.bH [] []))) σ) Q U):SX J (.Assign [T] (.Dict [] [] j) pos) ρ oa σ kn kb Q U:=λ c s I=>
 gD I (rn m) rfl g (iK I λ s' r e u=>Ft m d λ y p d=>w1 F I p d f r (aE _) ⟨_,e⟩ (λ b ζ=> .bH [] [] [] b {[],0,e,trivial,kO,u} rfl) λ t n q=>Nx.new (.refl I.g) (aE _) h n q)
def uH{b}{id}{f}(I:J.I ρ oa σ c s)(n:bo J.Γ i o=true)(e:J.ow=some i)(p:ay ρ i=some (.lst l))(m:noStar a=true)(d:(apos.endLine==pos.line)=true)(g:PlainAttrs "list")(h:Slot "list" b id)(j:typeOf (.builtin id)=pure (.type "method_descriptor"))
 (k:∀y,J.Γ.lookup y=some i->wpAny M0 J.A (callWith pos (.builtin id) [.ref oa] [(false,eval a J.env)] []) (λ ζ s=>f .next s) E s):wpAny M0 J.A (exec (.Expr (.Call (.Attribute o b apos) [a] [] pos) sp) J.env) f E s:=DA I n e p m d g h j k
def HG(F:J.Fn)(N:bo J.Γ i o=true)(t:J.ow=some i)(M:noStar a=true)(j:(apos.endLine==pos.line)=true)(H:ck J.S x a=true)(h:Wt J.cl (aF (ay ρ i) λ o=>aF o.l? λ l=>bT (ev x ρ σ) λ v σ=>gT (l.length<=1000000) (kn (ρ.set i (some (.lst (l++ [v])))) σ)) Q U):SX J (.Expr (.Call (.Attribute o "append" apos) [a] [] pos) sp) ρ oa σ kn kb Q U:=λ c s I=>
 h.on λ u A h=>h.on λ l e h=>by
  cases V.oV e
  exact uH I N t A M j PySem.F.plainAttrs_list PySem.F.slot_list_append PySem.F.type_list_append λ y S=>P.append_list (EV.go H h I λ {m G v C D} q p r g=>q.g λ L w=>by
   refine (rj g t S A).elim λ B d=> ?_;have z:=wZ (f:=λ xs=>xs.push m) F g t A d.2.2 d.1 (List.push_toArray B m) (d.2.1.snoc r);obtain ⟨n,e⟩:=d.1
   exact {_,n,by simp [d.2.1.length];exact dd L,e,Nx.st p w z.1 z.2})
def HD(F:J.Fn)(Z:bo J.Γ i o=true)(t:J.ow=some i)(W:noStar a=true)(j:(apos.endLine==pos.line)=true)(P:ck J.S x a=true)(h:Wt J.cl (aF (ay ρ i) λ o=>aF o.l? λ l=>bT (ev x ρ σ) λ v σ=>aF v.t? λ w=>gT (l.length+w.length<=1000000) (kn (ρ.set i (some (.lst (l++w)))) σ)) Q U):SX J (.Expr (.Call (.Attribute o "extend" apos) [a] [] pos) sp) ρ oa σ kn kb Q U:=λ c s I=>
 h.on λ u D h=>h.on λ l e h=>by
  cases V.oV e
  exact uH I Z t D W j PySem.F.plainAttrs_list PySem.F.slot_list_extend PySem.F.type_list_extend λ y hy=>PySem.seqMethod1_meets PySem.F.slot_list_extend PySem.F.entry_list_extend (EV.go P h I λ {m M v H L} q p r g=>q.on λ ws e q=>q.g λ S w=>by
   cases V.rX e;obtain ⟨ta,A,e,tn,⟨tk,te⟩,N⟩:=r;subst e;refine (rj g t hy D).elim λ C d=> ?_;have z:=wZ (f:=λ xs=>xs++A.toArray) F g t D d.2.2 d.1 (FW C A) (aj.append' d.2.1 N);obtain ⟨n,e⟩:=d.1;have G:=dd (show C.toArray.size+A.toArray.size<=1000000 by simp [d.2.1.length,N.length];exact S);refine {⟨_,e,rfl⟩,PySem.F.args_list_extend_2 _ _,_,AutoSeq1.list_extend_list_tuple_0 oa _ n ta _ tk ?_ (ag (ed _ _) G) (ag (ag (bV _) G) (kN _)),e,te,Nx.st p w z.1 z.2}
   rw [show Builtin.List.listTooLong _=false from qp (Nat.not_lt.mpr G)];simp)
def Cc{f:V->St->bX}{z}{D}(I:J.I ρ oa σ c s)(L:bo J.Γ i o=true)(m:J.ow=some i)(G:ck J.S x a=true)(h:Wt J.cl (aF (ay ρ i) λ o=>aF o.l? λ l=>bT (ev x ρ σ) λ v σ=>aF v.l? λ w=>gT (l.length+w.length<=1000000) (f (.lst (l++w)) σ)) Q U)
 (k:∀{l d g s₁ mvs},Wt J.cl (f (.lst l) d) Q U->Po c s d g s₁->J.I ρ oa d g s₁->cy g s₁.heap l mvs->z (.ref s₁.heap.objs.size) {s₁ with heap:=s₁.heap.push {cls:=.type "list",data:=.seq mvs.toArray}}):wpAny M0 J.A (eval (.BinOp o .Add a D) J.env) z (XP J U) s:=
 h.on λ u A h=>h.on λ l e h=>by
  cases V.oV e
  exact wpAny_BinOp (rh I L m A λ y M ζ=>EV.go G h I λ q p r j=>q.on λ Z e q=>q.g λ H w=>by
   cases V.oV e;obtain ⟨mvs,⟨n,F⟩,B,b⟩:=rj j m M A;obtain ⟨P,t,e,W,⟨S,N⟩,C⟩:=r;subst e
   exact _root_.PySem.P.add_list F N (FW mvs t▸k w p j (aj.append' B C)) (dd (by simp [B.length,C.length];exact H)))
def HF{g}(F:J.Fn)(j:isNm J.Γ i T=true)(n:mW J.κ T=true)(q:bo J.Γ i o=true)(d:J.ow=some i)(e:gH J.κ [T] (.BinOp o .Add a g)=some none)(m:ck J.S x a=true)(h:Wt J.cl (aF (ay ρ i) λ o=>aF o.l? λ l=>bT (ev x ρ σ) λ v σ=>aF v.l? λ w=>gT (l.length+w.length<=1000000) (kn (ρ.set i (some (.lst (l++w)))) σ)) Q U):SX J (.Assign [T] (.BinOp o .Add a g) pos) ρ oa σ kn kb Q U:=λ c s I=>
 gD I (rn j) rfl e (Cc (f:=λ v σ=>kn (ρ.set i (some v)) σ) I q d m h λ w p b r=>AG F j n d b p r w)
def DB{j}(q:bo J.Γ i o=true)(d:J.ow=some i)(n:ck J.S x a=true)(h:Wt J.cl (aF (ay ρ i) λ o=>aF o.l? λ l=>bT (ev x ρ σ) λ v σ=>aF v.l? λ w=>gT (l.length+w.length<=1000000) (.ret (.ok (.lst (l++w)) σ))) Q U):SX J (.Return (some (.BinOp o .Add a j)) pos) ρ oa σ kn kb Q U:=λ c s I=>
 Bm (Cc (f:=λ v σ=> .ret _) I q d n h λ w p b r=>
  have g:PK _ _:=.push _ _ _
  Rt.of (b.next (g.post b.g)) w.ok {_,_,rfl,λ m=>(b.g.low _ m).elim λ o e=>aQ ((aE _).symm.trans e),{0,dW _ rfl},g.bN b.g.ok r})
def HA(F:J.Fn)(p:bo J.Γ i o=true)(d:J.ow=some i)(h:Wt J.cl (iY (ay ρ i) σ) Q U):SX J (.Return (some o) pos) ρ oa σ kn kb Q U:=λ c s I=>h.o λ u g q=>
 Bm (rh I p d g λ y A r=>by
  have j:=λ m=>(e6.mp m).elim (λ m=>(Inv.low₀ I _ m).elim λ o e=>aQ ((Inv.own I F.fl i d (Option.isSome_of_mem g)).1.symm.trans e)) r.hs.2.1;have sub:=Cx.fv I.g.ok (Inv.st I)
  exact {u,σ,c,q,Inv.uI I,by
   cases r with
   | lst z b _ t f=>exact {_,b,rfl,j,t,aj.mono sub _ _ f}
   | bH B z b _ n f=>exact {_,b,rfl,j,n,aj.mono sub _ _ f}})
def Hz{S}{p}(F:J.Fn)(ho:bo J.Γ i o=true)(A:J.ow=some i)(c1:ck J.S v value=true)(c2:ck J.S k S=true)(h:Wt J.cl (aF (ay ρ i) λ o=>aF o.d? λ q=>bT (ev v ρ σ) λ v σ=>bT (ev k ρ σ) λ k σ=>aF k.s? λ k=>gT (q.1.length<=1000) (kn (ρ.set i (some (.bH (bB q.1 q.2 k v).1 (bB q.1 q.2 k v).2))) σ)) Q U):SX J (.Assign [.Subscript o S p] value pos) ρ oa σ kn kb Q U:=λ c s I=>
 h.on λ u D h=>h.on λ d e h=>by
  cases V.QQ e
  exact wpAny_Assign_Subscript (EV.go c1 h I λ {mv s₁ u₁ G L} q p r f=>rh f ho A D λ y hy ζ=>EV.go c2 q f λ {mk B W H M} q Z r2 g=>q.on λ x e q=>q.g λ hl w=>by
   cases V.jW e;obtain ⟨t,e⟩:=r2;subst e;obtain ⟨mvs,N,rr,b⟩:=Hy g A hy D;have j:=N.dictOf;have z:=lI (k:=x) (m:=mv) j.2.1 (N.elim λ ζ z=>z.elim λ ζ z=>z.2.2.1);refine wpAny_setItem_pairs (ff x) j.1 (λ h' P hs=> ?_) (by simp only [A_,←j.2.1,uY];exact ag hl ⋯);have e:=mP (k:=x) (Z.rp f.g.ok r) j.2.1 rr;simp [z.1] at P;have C:=DictAt.of P j.2.2;rw [hI z.2,Bg (by simp_all),←e.1] at C;have u:dE _ _ h' oa:={b.1,b.2.1,λ b hb=>hs.2 b hb,C.elim λ ζ z=>z.elim λ ζ z=>⟨_,z.1⟩};have n:=wX (t:=B.toks+1) g F.fl A (by rw [D];rfl) u b.2.2 (.bH _ _ _ b C (e.2.off g.g.ok u))
   exact Nx.st (p.trans Z) w n.1 n.2) w6
end
section
variable{J:Jx}{ρ ρ':En}{oa TG:Addr}{σ σ':St}{c c':Cx}{s s':Shared}{U:VS}{Q:VS}{kn kb:Kn}{x v k:X}{T value o a:Expr}{pos apos sp:Pos}{E:VP}{Qf:Flow->Shared->Prop}{i j:Nat}{l:List V}{y n1 n2:Str}
inductive O2(J:Jx)(f:V->Kn)(Q:VS)(U:VS)(ρ:En)(c:Cx)(s:Shared)(b:Addr)(m:Value)(s':Shared):Prop
 | mk (v:V) (σ:St) (c':Cx) (w:Wt J.cl (f v ρ σ) Q U) (p:Po c s σ c' s') (r:Rp c' s'.heap v m) (sq:SeqAt s'.heap b "list" []) (h:b∈c'.H) (nS:b∉c'.S) (nF:b∉c'.Fs) (fr:s.heap.get? b=none):O2 J f Q U ρ c s b m s'
noncomputable def fO(i j:Nat)(kn:Kn):V->Kn:=λ v ρ σ=>kn ((ρ.set i (some (.lst []))).set j (some v)) σ
def O2.lx{X:Expr}{z:Pos}(I:J.I ρ oa σ c s)(u:ck J.S x X=true)(h:Wt J.cl (bT (ev x ρ σ) λ v σ=>fO i j kn v ρ σ) Q U):a6 M0 J.A J.env (XP J U) [.List [] z,X] (λ ms s'=>∃b m,ms= [.ref b,m]/\O2 J (fO i j kn) Q U ρ c s b m s') s:=
 qB λ t g e=>by
  have d:=aE s.heap;have p:Po c s σ _ _:=.eK I.g g.keep g.gens g.os d ⟨_,e⟩;exact EV.go u h (I.next p) λ q f r n=>{_,_,rfl,_,_,_,q,p.trans f,r,SeqAt.step f.st {0,e} (I.g.ok.no (I.no d)) (I.g.ok.cF (I.no d)),f.st.bz _ (.head _),f.st.gQ e (I.g.ok.no (I.no d)),f.st.jA e (I.g.ok.cF (I.no d)),d}
def O2.xl{X:Expr}{C:Pos}(I:J.I ρ oa σ c s)(B:ck J.S x X=true)(h:Wt J.cl (bT (ev x ρ σ) λ v σ=>fO i j kn v ρ σ) Q U):a6 M0 J.A J.env (XP J U) [X,.List [] C] (λ ms s'=>∃b m,ms= [m,.ref b]/\O2 J (fO i j kn) Q U ρ c s b m s') s:=
 EV.go B h I λ {m f v t u} q p r d=>qB λ A n e=>by
  have g:=aE f.heap;have z:Po _ _ _ _ _:=.eK d.g n.keep n.gens n.os g ⟨_,e⟩;exact {_,_,rfl,_,_,_,q,p.trans z,z.rp d.g.ok r,{0,e},.head _,d.g.ok.no (d.no g),d.g.ok.cF (d.no g),p.st.none_of g}
def O2.fin{M:Model}{A:Around}{b:Addr}{m:Value}{d:Shared}(F:J.Fn)(I:J.I ρ oa σ c s)(h1:J.Γ.lookup n1=some i)(k1:ku J.κ n1=true)(B:J.ow=some i)(h2:J.Γ.lookup n2=some j)(k2:cA J.κ true n2=true)(u:J.ow≠some j)(z:O2 J (fO i j kn) Q U ρ c s b m s')(pk:PK s' d):
 wpAny M A (storeName J.env n2 m) (λ ζ f=>wpAny M A (storeName J.env n1 (.ref b)) (λ ζ t=>Nx J kn Q U oa c s t) E f) E d:=z.casesOn λ v σ' c' w p r sq W L H D=>by
 have C:=pk.post (I.next p).g;refine yi F ((I.next p).next C) k2 h2 u (Po.rp C (I.next p).g.ok r) λ f P N=> ?_;have n:=I.no D;exact rZ P h1 F.i ((w2 k1).imp id λ h=>⟨F.fl,h⟩) B ((Inv.st I).none_of D) (λ q=>n (q▸(Inv.dl I).2)) (λ y Z e q=>n (q▸(Inv.dh I Z (Ct.lu F.fl e)).1)) (.lst [] [] ⟨W,L,H⟩ (SeqAt.kp N L H (λ m=>n (Inv.dh I _ m).1) (SeqAt.step C.st sq L H)) rfl) λ t S G=>{_,b,σ',c',w,((p.st.kp.trans C.st.kp λ a m=> .inl m).trans N λ a m=> .inl m).trans G λ a m=> .inl m,.inr D,List.set_comm _ _ (λ q:j=i=>u (q▸B))▸S}
def Av{es:List Expr}{X:Expr}{n t:Nat}{r u p:Pos}(F:J.Fn)(D:noStar X=true)(f:gH J.κ [.Tuple es n r] (.Tuple [.List [] p,X] t u)=some (some [n1,n2]))(A:J.Γ.lookup n1=some i)(k1:ku J.κ n1=true)(e:J.ow=some i)(B:J.Γ.lookup n2=some j)(k2:cA J.κ true n2=true)(d:J.ow≠some j)(C:ck J.S x X=true)
 (h:Wt J.cl (bT (ev x ρ σ) λ v σ=>fO i j kn v ρ σ) Q U):SX J (.Assign [.Tuple es n r] (.Tuple [.List [] p,X] t u) pos) ρ oa σ kn kb Q U:=λ c s I=>
 ud I f (af (eM (af (a6.spliced ((nc _).trans D) (a6.mono (λ ζ ζ x=>x) (λ g q z=>z.elim λ b z=>z.elim λ m z=>
  oZ {_,g,rfl,congrArg _ z.1,{0,dW _ rfl},λ s' G=>z.1▸u_ (wpAny_bindName (az (z.2.fin F I A k1 e B k2 d ((PK.push _ _ _).trans G)) (λ ζ s z=>u_ (wpAny_bindName (az z (λ ζ s z=>Bx z) λ ζ ζ y=>y))) λ ζ ζ y=>y))} (by rw [z.1];show 2<=sizeLine;decide)) (O2.lx I C h))))))
def Au{X:Expr}{n A:Nat}{u B p q r:Pos}(F:J.Fn)(H:noStar X=true)(g:gH J.κ [.Tuple [.Name n2 q,.Name n1 r] n u] (.Tuple [X,.List [] p] A B)=some none)(C:J.Γ.lookup n1=some i)(k1:ku J.κ n1=true)(f:J.ow=some i)(D:J.Γ.lookup n2=some j)(k2:cA J.κ true n2=true)(d:J.ow≠some j)(G:ck J.S x X=true)
 (h:Wt J.cl (bT (ev x ρ σ) λ v σ=>fO i j kn v ρ σ) Q U):SX J (.Assign [.Tuple [.Name n2 q,.Name n1 r] n u] (.Tuple [X,.List [] p] A B) pos) ρ oa σ kn kb Q U:=λ c s I=>
 gD I rfl rfl g (af (eM (af (a6.spliced ((nc _).trans H) (a6.mono (λ ζ ζ x=>x) (λ M t z=>z.elim λ b z=>z.elim λ m z=>
  oZ (z.1.symm▸assign_Tuple_tuple I.rm.hd (SeqAt.isTup {0,dW _ rfl}) rfl (fN rfl).2.2 λ N L=>u_ (Bn (az (z.2.fin F I C k1 f D k2 d {λ b o e=>L b o (jG (fY (b9 _ e))) (b9 _ e),rfl,rfl}) (λ ζ s z=>u_ (Bn (az z (λ ζ s z=>Bx z) λ ζ ζ y=>y))) λ ζ ζ y=>y))) (by rw [z.1];show 2<=sizeLine;decide)) (O2.xl I G h))))))
end
section
variable{J:Jx}{ρ ρ':En}{oa TG:Addr}{σ σ':St}{c c':Cx}{s s':Shared}{U:VS}{Q:VS}{kn kb:Kn}{x v k:X}{T value o a:Expr}{pos apos sp:Pos}{E:VP}{Qf:Flow->Shared->Prop}{i j:Nat}{l:List V}{y n1 n2:Str}{M:Model}{A:Around}{C:Prop}
def BR{h}{n}{g f}{m}(r:n8 KA Pw c.H h n g f m):∃a,m= .ref a/\∃od b sl,h.get? a=some {.ref 64,od,.fields b,sl}:=r.casesOn λ a d b sl ζ ζ ζ ζ ζ ζ e ζ ζ ζ ζ=>⟨a,rfl,d,b,sl,e⟩
inductive Rz(E:VP)(m:Value)(s:Shared):Prop
 | mk (σ:St) (c:Cx) (wy:Str) (rr cc:Int) (g:Gd aL Pw σ c s.heap) (r:Rp c s.heap (.exc wy rr cc) m) (k:∀a h' fl,m= .ref a->Qt c s.heap h'->eS c h' a fl->(fl=none∨fl=some .none)->E m {s with heap:=h'}):Rz E m s
def z5{x}{env}(p:A.handled=none)(t:wpAny M A x (Rz E) E s):wpAny M A (raiseStmt env (some x) none) Qf E s:=by
 refine af (az t (λ v h z=>z.casesOn λ σ c I F B g r k=>(BR r).elim λ a z=>z.2.elim λ D b=>b.elim λ H b=>b.elim λ G q=> ?_) λ ζ ζ x=>x);have e:=z.1;subst e;have d:=g.bC _ _ rS
 repeat (first | with_reducible exact (af (PM.zc g.ok r λ n m st ex f=>wpAny_raiseNew_none p (k a n m rfl st ex f)):wpAny M A (do setFlight _ _;raiseNew _) Qf E _) | with_reducible refine oY q ?_ | with_reducible refine oY d ?_ | (with_reducible refine Br d ?_) | wp_step)
def G7{e}(B:ck J.S x e=true)(h:Wt J.cl (bT (ev x ρ σ) λ v σ=>aF v.e? λ p=> .ret (.ex (.exc p.1 p.2.1 p.2.2) σ)) Q U):SX J (.Raise (some e) none pos) ρ oa σ kn kb Q U:=λ c s I=>af (eM (z5 I.rm.hd (af (EV.go B h I λ {m u v n t} q p r g=>af (eM (aD (q.on λ d e q=>by
 cases V.Mn e
 exact {n,t,_,_,_,g.g,r,λ b D z e st ex f=>{_,_,_,n,t,ρ,oa,q.ex,g.qt st,b,z,e,Rep.step g.g.ok st.st _ _ (e▸r),ex,f.imp id .inl}})))))))
def Wt.tr{d}{t}{f}(h:Wt d (t8 t f) Q U):Wt d t Q (λ e σ=>∃w a b,e= .exc w a b/\Wt d (f w a b σ) Q U):=h.elim λ r h=>(Ju t h.1).elim λ g z=>{g,z.1,match g,z.2 with
 | .ok v σ,e=>by subst e;exact h.2
 | .ex e σ,z=>Wt.on ⟨r,z,h.2⟩ λ p e w=>{_,_,_,V.Mn e,w}}
noncomputable def one(i:Nat)(u:V):En:=(List.replicate (i+1) none).set i (some u)
def HC(i)(u):ay (one i u) i=some u:=by
 unfold ay one;rw [qs (by simp)];rfl
def uK(i j):ay (List.replicate (i+1) none) j=none:=by
 unfold ay;rw [List.getElem?_replicate]
 split<;>rfl
def Jx.I.clear(I:J.I ρ oa σ c s):J.I (List.replicate (i+1) none) oa σ c s:=
 have z:=I;have n:∀{j},(ay _ j).isSome=true->False:=λ {j} h=>Bool.noConfusion (uK i j▸h)
 {{I.rm,I.fo,I.g,{I.er.fk,I.er.kn,I.er.gl,I.er.bl,I.er.cx,I.er.nl,I.er.ns.casesOn λ m n ζ=> .mk m n λ x j v ζ h=>aQ ((uK i j).symm.trans h)},z.h.hl},z.st,z.gens,z.os,z.ok₀,z.fs,z.sub,z.dl,z.qE,z.xS,z.cl,z.xT,λ j ζ h=>(n h).elim,λ ζ j ζ h=>(n h).elim,z.dh,z.low₀}
def zq{A}{E g}{n m}{e v}{p q}(I:J.I ρ oa σ c s)(z:cI n=true)(d:J.Γ.lookup n=some i)(b:J.ow≠some i)(B:ay ρ i=some e)(u:bu aL m=true)(h:fw σ m e=some v)(k:∀f t,Rp c s.heap v f->g f {s with toks:=t}):wpAny M0 A (eval (.Attribute (.Name n p) m q) J.env) g E s:=
 sZ rfl (jE I.er z d B λ f r=>by
  exact rR I.g u h (r.rep b) k)
def CS{A}{E}{n d p}{B q}{b}(I:J.I ρ oa σ c s)(L:hK n d b=true)(f:J.Γ.lookup n=some i)(e:J.ow≠some i)(h:ay ρ i=some (.exc p B q))(F:bu aL "why"=true)(G:bu aL "row"=true)(H:bu aL "column"=true)
 (k:∀m s',J.I ρ oa σ c s'->Rp c s'.heap (.tup [.str d,.str p,.int B,.int q]) m->Qf (.ret m) s'):wpAny M0 A (execs b J.env) Qf E s:=
 have It {t}:J.I ρ oa σ c {s with toks:=t}:=I.next (.toks I.g)
 zJ (λ b=>wpAny M0 A (execs b _) Qf E s) L λ g P p1 q1 r q2 u q3 z S pt rp=>af (Bm (af (eM (af (a6.spliced rfl (vD (v:=.str d) (ff d) λ W t0 N=>
  zq It g f e h F (v:=.str p) rfl λ Z t1 r=>zq It g f e h G ⋯ λ m2 t2 u=>zq It g f e h H ⋯ λ m3 D z=>
   oZ (aD (k _ _ (I.next ((PK.push s _ D).post I.g)) {s.heap.objs.size,_,rfl,I.no (aE _),{0,dW _ rfl},(PK.push s _ D).bN I.g.ok ⟨_,_,rfl,N,_,_,rfl,r,_,_,rfl,u,_,_,rfl,z,rfl⟩})) (by show 4<=sizeLine;decide)))))))
def Io{A}{n}{pos}{m}{v}(I:J.I ρ oa σ c s)(b:J.κ.lookup n=some .local)(q:Q v σ)(r:Rp c s.heap v m):wpAny M A (do bindName J.env n .none;unbindBehindTheSuite J.env n pos) (λ ζ s=>Rt J Q m s) E s:=I.er.ns.casesOn λ h g ζ=>
 wpAny_nameGoes (show J.env.scope.names.lookup n=_ by exact I.er.kn▸b) g (by rw [I.er.fk];rfl) λ f p d e=>by
  have u:dE c _ f J.env.locals:={(Inv.dl I).2,I.er.nl,λ a q=>e.2 a q,d.elim λ o z=>z.elim λ ζ z=>z.elim λ ζ z=>⟨o,z.1⟩};have o:=(Inv.uI I).off (t:=s.toks+1) u (Inv.dl I).1;exact {v,σ,c,q,o,Rep.mono (Cx.fv o.g.ok o.st) _ _ (r.off I.g.ok u)}
def PD{e v}{n p}{b}{t}{R}{H}{B}{E'}(F:J.Fn)(Z:hK n p [b]=true)(h:J.Γ.lookup n=some i)(f:J.κ.lookup n=some .local)(g:J.ow≠some i)(L:bu aL "why"=true)(N:bu aL "row"=true)(P:bu aL "column"=true)
 (z:XF J (λ e σ=>∃w a b,e= .exc w a b/\Q (.tup [.str p,.str w,.int a,.int b]) σ) v e s) (k:∀m s',wpAny H B (do bindName J.env n .none;unbindBehindTheSuite J.env n t) (λ ζ s=>Rt J Q m s) E' s'->R (.ok (.ret m)) s'):codeAny M0 A (.handlers e [.ExceptHandler none (some n) [b] t] J.env) R s:=
 codeAny_handlers_suite_as (z.up λ s' z=>z.casesOn λ wy rr cc σ c ρ oa W I a S q ex=>by
  subst S
  exact lJ I.clear h F.i (.inl f) g q λ u D kp5=>CS D Z h g (HC i _) L N P λ m s6 G r=>k m s6 (W.elim λ w z=>z.elim λ b z=>z.elim λ d z=>by
   cases z.1
   exact Io G f z.2 r))
def XF.S7{v e}{f}(x:XF J U v e s)(k:f true s):wpAny M A (excMatches e (.ref 64)) f E s:=x.casesOn λ B r m σ' c' ρ oa n I a g q ex=>(BR q).elim λ b z=>z.2.elim λ p d=>d.elim λ u d=>d.elim λ t h=>by
 rw [g,z.1];exact wpAny_excMatches_sub_self (I.g.bC _ _ rS) h rfl rfl k
def Im{e}{r n f}{b}{tp W}(F:J.Fn)(S:iT aL J.κ r (.ref 64)=true)(Z:hK n f [b]=true)(h:J.Γ.lookup n=some i)(d:J.κ.lookup n=some .local)(g:J.ow≠some i)(D:bu aL "why"=true)(G:bu aL "row"=true)(H:bu aL "column"=true)
 (z:XP J (λ e σ=>∃w a b,e= .exc w a b/\Q (.tup [.str f,.str w,.int a,.int b]) σ) e s):wpAny M0 J.A (noteFrame e J.env) (λ ζ s=>wpAny M0 J.A (setFlight e none) (λ ζ s=>wpAny M0 J.A (handleBy e J.env [.ExceptHandler (some (.Name r tp)) (some n) [b] W]) (Fp J kn kb Q U TG c s') E s) E s) E s:=F.o.elim λ p y=>y.elim λ L y=>z.note F y.2 λ u z=>z.up λ B z=>
 wpAny_handleBy_cons (codeAny_handlers_test (z.casesOn λ wy rr N σ c ρ oa P I a t q ex=>jn F0 I.g.bC I.er S (z.S7 (PD F Z h d g D G H z λ m s' k=>k)))) λ q=>z.casesOn λ wy rr N σ c ρ oa P I a t ζ ex=>nomatch t.symm.trans q
def Jt{e}{D n t}{b}{tp rp W}(F:J.Fn)(S:iT aL J.κ D (.ref 64)=true)(Z:hK n t [b]=true)(B:J.Γ.lookup n=some i)(d:J.κ.lookup n=some .local)(u:J.ow≠some i)(G:bu aL "why"=true)(H:bu aL "row"=true)(L:bu aL "column"=true)(P:ck J.S x e=true)
 (h:Wt J.cl (t8 (ev x ρ σ) λ w a b σ=>gT (i<ρ.length) (.ret (.ok (.tup [.str t,.str w,.int a,.int b]) σ))) Q U):SX J (.Try [.Return (some e) rp] [.ExceptHandler (some (.Name D tp)) (some n) [b] W] [] [] pos) ρ oa σ kn kb Q U:=λ c s I=>wpAny_Try_except (af (Bm (az ((qK x P).v h.tr c s I) (λ m f z=>aD (z.casesOn λ v σ' c' q p r=>Rt.of (I.next p) q r)) λ e f z=>Im F S Z B d u G H L (XP.casesOn z λ wy rr N σ c ρ oa h=> .mk wy rr N σ c ρ oa (h.elim λ w z=>z.elim λ a z=>z.elim λ b z=>{w,a,b,z.1,z.2.g λ ζ w=>w.ok})))))
end
section
variable{J:Jx}{ρ ρ':En}{oa TG:Addr}{σ σ':St}{c c':Cx}{s s':Shared}{U:VS}{Q:VS}{kn kb:Kn}{x e:X}{elt iter:Expr}{E Tv:VP}{i:Nat}{l l0:List V}{cs:List X}{ifs:List Expr}{sc:Scope}{pos cpos:Pos}{t:Tg}{TF:Expr}{Ia C D:Addr}{wr fp:List Addr}
def JB{x}{d b}(f:ER Pw J.env J.κ J.Γ J.ow oa ρ c s.heap)(h:EZ J.κ x d b sc=true):swapsWithSole [.Name x d] (.ListComp elt [{TF,iter,ifs,0}] sc b) pos.line J.env=pure true:=by
 show (do return J.env.blockKind== .function && J.env.kindOf x==some _ && d.line==b.line && !sc.names.any _:PySem.Sem _)=pure _;rw [(by unfold Env.blockKind;rw [f.fk];rfl:(J.env.blockKind== .function)=true),(by unfold Env.kindOf;rw [f.kn]:J.env.kindOf x=J.κ.lookup x),Bool.true_and];unfold EZ at h;rw [h]
def Je{H}{y}{T L}(F:J.Fn)(f:EZ J.κ y T L sc=true)(G:J.Γ.lookup y=some i)(A:J.ow≠some i)(O:CO J t TF iter sc)(c0:pS J.S H iter TF=true)(c1:ck (J.S.sub t TF sc) e elt=true)(c2:eA (J.S.sub t TF sc) cs ifs=true)
 (h:Wt J.cl (bT (ev (.comp e t H cs) ρ σ) λ v σ=>aF (dR (.loc i) v ρ) λ ρ=>kn ρ σ) Q U):PM.N.SX J (.Assign [.Name y T] (.ListComp elt [{TF,iter,ifs,0}] sc L) pos) ρ oa σ kn kb Q U:=λ c s I=>by
 refine af (eM (af (oX (JB I.er f) (af (af (az (vH (lz e) (L9 H) (λ x ζ=>lz x) O c0 c1 c2 h.b I λ C D s' z=>z.casesOn λ vs σ' c' q p hC S P M r m ns=>q.on λ ρ' e q=> ?_) (λ ζ s' z=>aD (aD z)) λ ζ ζ z=>z))))));have k:C∉J.D oa:=λ m=>I.no M (Inv.dh I _ m).1;refine Bn (yi F (I.next p) (by unfold cA;rw [(an (an f).1).1];rfl) G A r λ W Z N=>{m,ns.elim λ o z=>z.elim λ es z=>z.elim λ ep z=>{o,es,ep,N.b3 z.1 S P (λ q=>absurd q k) (λ ws q=>nomatch z.2.1.symm.trans q),z.2},λ h2 B=> ?_});have q:=ar (eg e).2▸q;have e:∀b∈[C],b=C:=λ b m=>cu.mp m;have u:bO c' _ h2 [C]:={λ b m=>e b m▸hC,λ b m=>e b m▸S,λ b m=>e b m▸P,λ a o n eo=>(B.2 a λ q=>n (q▸.head _)).trans eo};have d:=λ b m=>e b m▸M;exact {_,oa,σ',_,q,u.kp (p.st.kp.trans N λ a m=> .inl m) d λ b m q=>I.no (d b m) q,.inl rfl,Inv.drop Z (λ j ζ ζ m=>k (e _ m▸Ct.zu F.fl)) (λ y cc g m=>k (e _ m▸Ct.lu F.fl g)) u (λ b m=>e b m▸k) λ b m=>(Inv.st I).none_of (d b m)}
end
section
variable{x v k:X}{i j:Nat}
def M6:P8 (.c8 x k v):=λ {J st g f l e d Q U} F a h=>gr (λ st=>SX J st g f l e d Q U) a λ T c b a=>mI (λ T=>SX J (.Assign [T] _ b) g f l e d Q U) a λ o i p a=>GN (an a).1 (an (an a).2).1 (an (an a).2).2 h
def Nj{p}:P8 (.vO p i v):=λ {J st g f l e d Q U} F a h=>uw (λ st=>SX J st g f l e d Q U) a λ t m c b a=>cz (λ t=>SX J (.AugAssign t m _ b) g f l e d Q U) a λ y n a=>
 bq (an a).1▸Ja F (an (an a).2).1 (an (an (an a).2).2).1 (an (an (an a).2).2).2 h
def Nk{p}{n}:P8 (.rQ p x n v):=λ {J st l g q f e Q U} F b h=>uw (λ st=>SX J st l g q f e Q U) b λ t r d c b=>fy (λ t=>SX J (.AugAssign t r _ c) l g q f e Q U) b λ o m ap b=>
 have a:=an (an b).2
 bq (an b).1▸bq a.1▸Jc (an a.2).1 (bq a.1▸(an (an a.2).2).1) (bq a.1▸(an (an (an a.2).2).2).1) (an (an (an (an a.2).2).2).2).1 (an (an (an (an a.2).2).2).2).2 h
def Ni{p}:P8 (.eL p x k v):=λ {J st l g m f e Q U} F a h=>uw (λ st=>SX J st l g m f e Q U) a λ t n c b a=>mI (λ t=>SX J (.AugAssign t n _ b) l g m f e Q U) a λ o i ap a=>
 have d:=an (an (an (an a).2).2).2
 bq (an a).1▸I_ (an (an a).2).1 (an (an (an a).2).2).1 d.1 (an d.2).1 (an d.2).2 h
def M7{r}:P8 (.q0 x r v):=λ {J st e g f c b Q U} F a h=>gr (λ st=>SX J st e g f c b Q U) a λ T l d a=>orr a (λ a=>fy (λ T=>SX J (.Assign [T] _ d) e g f c b Q U) a λ o n p a=>by
 cases bq (an a).1
 exact GO (an (an a).2).1 (an (an (an a).2).2).1 (an (an (an a).2).2).2 h) λ a=>eD (λ T=>SX J (.Assign [T] _ d) e g f c b Q U) a λ t u z a=>by
 have m:=an (an (an (an a).2).2).2
 revert h
 exact Jj (λ x=>Wt _ (ex J.n (.q0 x r v) e f c b) Q U->SX J _ e g f c b Q U) m.1 λ i s h=>(O5 s).elim λ y q=>C8 (nt (an a).1) (bq (an (an a).2).1) q.1 q.2 (an m.2).1 (gx (an (an (an a).2).2).1) (an m.2).2 h
def PB{t}:P8 (.asg t x):=λ {J st d m f c b Q U} F a h=>gr (λ st=>SX J st d m f c b Q U) a λ T l g a=>orr a (λ a=>Nn F a h) λ a=>orr a (λ a=>by
 revert h
 refine Jw (λ t=>Wt _ (ex J.n (.asg t x) d f c b) Q U->SX J _ d m f c b Q U) a λ L a h=>eD (λ T=>SX J (.Assign [T] _ g) d m f c b Q U) a λ C E I a=>eD (λ l=>SX J (.Assign _ l g) d m f c b Q U) a λ P M N a=> ?_;have o:=an (an (an (an a).2).2).2
 exact Jd F (an a).1 (an (an a).2).1 (an (an (an a).2).2).1 (bq o.1) (an o.2).1 (gx (an (an o.2).2).1) (an (an o.2).2).2 h) λ a=>by
 revert h
 refine uc (λ t=>Wt _ (ex J.n (.asg t x) d f c b) Q U->SX J _ d m f c b Q U) a λ i a=>GF (λ x=>Wt _ (ex J.n _ d f c b) Q U->SX J _ d m f c b Q U) a λ e H D B a h=>cz (λ T=>SX J (.Assign [T] _ g) d m f c b Q U) a λ n G a=>wm (λ v=>SX J (.Assign _ v g) d m f c b Q U) a λ q r z u a=>Cq (λ r=>SX J (.Assign _ (.ListComp q r z u) g) d m f c b Q U) a λ A s y a=> ?_;have p:=an (an (an (an (an a).2).2).2).2;exact Je F (an a).1 (bq (an (an a).2).1) (bn (an (an (an a).2).2).1) (Gj (an p.2).1) p.1 (an (an p.2).2).1 (an (an p.2).2).2 h
def M8:P8 (.cB x):=λ {J st g f l d b Q U} F a h=>GZ (λ st=>SX J st g f l d b Q U) a λ e c p a=>e9 (λ e=>SX J (.Raise e c p) g f l d b Q U) (an a).2 λ e m=>by
 cases c with
 | some _=>exact c4 (an a).1
 | none=>exact G7 m h
def Pn{s}:P8 (.yd x i s):=λ {J st p m q l g Q U} F a h=>Kc (λ st=>SX J st p m q l g Q U) a λ b r o f c a=>b4 (λ o=>SX J (.Try b r o f c) p m q l g Q U) (an a).1 (b4 (λ f=>SX J (.Try b r [] f c) p m q l g Q U) (an (an a).2).1 (c6 (λ b=>SX J (.Try b r [] [] c) p m q l g Q U) (an (an a).2).2 λ b a=>
 q7 (λ b=>SX J (.Try [b] r [] [] c) p m q l g Q U) a λ e B a=>c6 (λ r=>SX J (.Try _ r [] [] c) p m q l g Q U) a λ u a=>I0 (λ u=>SX J (.Try _ [u] [] [] c) p m q l g Q U) a λ A n d C z a=>by
  have t:=an (an (an (an a).2).2).2;have y:=an (an (an (an t.2).2).2).2;have w:=(an (an a).2).1
  revert w
  exact c6 (λ d=>hK n s d=true->SX J (.Try _ [.ExceptHandler _ _ d z] [] [] c) p m q l g Q U) (an (an (an a).2).1).2 λ b ζ w=>Jt F (an a).1 w (bq (an (an (an a).2).2).1) (bq t.1) (bn (an t.2).1) (an (an t.2).2).1 (an (an (an t.2).2).2).1 y.1 y.2 h))
def Na{n}:P8 (.hX i n):=λ {J st l g m f e Q U} F b h=>gr (λ st=>SX J st l g m f e Q U) b λ T a d b=>n9 (λ a=>SX J (.Assign [T] a d) l g m f e Q U) b λ o p b=>by
 have c:=an (an (an (an b).2).2).2;exact HB F (an b).1 (an (an b).2).1 (bq (an (an (an b).2).2).1) c.1 (bq (an c.2).1) (gx (an (an c.2).2).1).2 (an (an c.2).2).2 h
def I6:P8 (.qc i):=λ {J st g f l e d Q U} F b h=>gr (λ st=>SX J st g f l e d Q U) b λ T a c b=>hJ (λ a=>SX J (.Assign [T] a c) g f l e d Q U) b λ p m o b=>
 b4 (λ p=>SX J (.Assign [T] (.Dict p m o) c) g f l e d Q U) (an b).1 (b4 (λ m=>SX J (.Assign [T] (.Dict [] m o) c) g f l e d Q U) (an (an b).2).1 (by
  have n:=an (an (an (an b).2).2).2
  exact DD F (an (an (an b).2).2).1 n.1 (bq (an n.2).1) (bq (an n.2).2) h))
def M9:P8 (.oset i k v):=λ {J st g f l e d Q U} F a h=>gr (λ st=>SX J st g f l e d Q U) a λ T c b a=>mI (λ T=>SX J (.Assign [T] _ b) g f l e d Q U) a λ o m p a=>
 Hz F (an a).1 (bq (an (an a).2).1) (an (an (an a).2).2).1 (an (an (an a).2).2).2 h
def Nd:P8 (.dy i x):=λ {J st l g m f d Q U} F b h=>q9 (λ st=>SX J st l g m f d Q U) b λ e u b=>Cn (λ e=>SX J (.Expr e u) l g m f d Q U) b λ o c a t n p q r s=>HG F n p r q s h
def Nb:P8 (.pz i x):=λ {J st l g m f d Q U} F b h=>q9 (λ st=>SX J st l g m f d Q U) b λ e u b=>Cn (λ e=>SX J (.Expr e u) l g m f d Q U) b λ o c a t n p q r s=>HD F n p r q s h
def Nc:P8 (.pC i x):=λ {J st m l n g f Q U} F c h=>gr (λ st=>SX J st m l n g f Q U) c λ T b e c=>t6 (λ b=>SX J (.Assign [T] b e) m l n g f Q U) c λ o q a p c=>by
 cases bq (an c).1;have d:=an (an (an (an c).2).2).2;exact HF F (an (an c).2).1 (an (an (an c).2).2).1 d.1 (bq (an d.2).1) (bq (an (an d.2).2).1) (an (an d.2).2).2 h
def M_:P8 (.lT i):=λ {J st e d f c b Q U} F a h=>q7 (λ st=>SX J st e d f c b Q U) a λ o p a=>HA F (an a).1 (bq (an a).2) h
def I5:P8 (.j3 i x):=λ {J st g f l d c Q U} F b h=>q7 (λ st=>SX J st g f l d c Q U) b λ e p b=>t6 (λ e=>SX J (.Return _ p) g f l d c Q U) b λ o n a m b=>by
 cases bq (an b).1;exact DB (an (an b).2).1 (bq (an (an (an b).2).2).1) (an (an (an b).2).2).2 h
def I7{f}:P8 (.lU i j f x):=λ {J st n m o l g Q U} F c h=>gr (λ st=>SX J st n m o l g Q U) c λ T e d c=>eD (λ T=>SX J (.Assign [T] _ d) n m o l g Q U) c λ E z A c=>qP (λ E=>SX J (.Assign [.Tuple E z A] _ d) n m o l g Q U) c λ D y c=>cz (λ D=>SX J (.Assign [.Tuple [D,y] z A] _ d) n m o l g Q U) c λ M N c=>cz (λ y=>SX J (.Assign [.Tuple [.Name M N,y] z A] _ d) n m o l g Q U) c λ P S c=>
 eD (λ e=>SX J (.Assign _ e d) n m o l g Q U) c λ G B C c=>qP (λ G=>SX J (.Assign _ (.Tuple G B C) d) n m o l g Q U) c λ a b c=>by
  have H:=bq (an c).1;have I:=bn (an (an c).2).1
  exact orr (an (an c).2).2 (λ c=>zz (λ a=>SX J (.Assign _ (.Tuple [a,b] B C) d) n m o l g Q U) c λ L c=>Co (an c).2 λ p q r s t u=>Av F p (bq (an c).1) q r H s t I u h)
   λ c=>zz (λ b=>SX J (.Assign _ (.Tuple [a,b] B C) d) n m o l g Q U) c λ L c=>Co (an c).2 λ p q r s t u=>Au F p (bq (an c).1) q r H s t I u h
def QY(c):P7 c:=
 Y.rec_1 (motive_1:=P8) (motive_2:=P7) (λ ζ=>Ng) (λ ζ ζ=>PB) (λ ζ ζ ζ=>M7) (λ ζ ζ ζ=>M6) (λ ζ ζ ζ=>Nj) (λ ζ ζ ζ ζ=>Nk) (λ ζ ζ ζ ζ=>Ni)
  (λ ζ ζ ζ a b=>Pz a b) (λ ζ ζ b=>Pm b) (λ ζ ζ ζ b=>Nf b) PA (λ ζ=>Pu) (λ ζ=>M8) (λ ζ ζ ζ=>Pn) (λ ζ ζ=>Na) (λ ζ ζ ζ ζ=>I7) (λ ζ=>I6)
  (λ ζ ζ ζ=>M9) (λ ζ ζ=>Nd) (λ ζ ζ=>Nb) (λ ζ ζ=>Nc) (λ ζ=>M_) (λ ζ ζ=>I5) Py (λ ζ ζ a b=>Nh a b) c
end
noncomputable def dv(a:Fn)(vs:List V):List V:=vs++a.kc.drop (vs.length+a.kc.length-a.np)
def Mo{a:Fn}{vs:List V}{ρ:En}(b:args a vs=some ρ):(dv a vs).length=a.np:=by
 unfold dv;rw [hH,u4];exact AH (eg b).1.1 (eg b).1.2.1
def BY{a:Fn}{vs:List V}{ρ:En}(c:args a vs=some ρ){i:Nat}{v:V}(e:ay ρ i=some v):(dv a vs)[i]? =some v/\i<a.np:=by
 have b:=Mo c;have z:(dv a vs).map _++List.replicate _ _=ρ:=ar (eg c).2
 revert z b
 generalize dv a vs=l;intro b z;rw [←z] at e;unfold ay at e;by_cases q:i<l.length
 ·rw [By (by rw [cJ];exact q),sE,cQ q] at e;exact {(cQ q).trans e,b▸q}
 ·rw [List.getElem?_append_right (by rw [cJ];exact xp q),List.getElem?_replicate] at e
  split at e<;>exact aQ e
section
variable{A:Around}{env:Env}{l:List Env}{c:Cx}{s s₁:Shared}{σ:St}{m cm:Str->Option Value}
noncomputable def xN(env:Env):List Addr:=env.cells.filterMap λ p=>env.cells.lookup p.1
def kB(env:Env)(c:Cx):Cx:={c.ν,c.μ,env.locals::c.Fs,env.locals::(xN env++c.H)}
def iJ(X:InCallC s env.locals m env.cells cm s₁){a:Addr}(h:a∈env.locals::xN env):s.heap.get? a=none/\∃o,s₁.heap.get? a=some o:=(a0.mp h).elim
 (λ e=>e▸{nu X.toInCall.fresh,X.toInCall.ns.elim λ o z=>z.elim λ ζ z=>z.elim λ ζ z=>⟨o,z.1⟩})
 λ h=>(xu.mp h).elim λ p z=>{nu (iC (fZ X.toInCall.fresh (X.above p.1 a (mem_of_lookup z.2)))),(X.cell p.1 a z.2).elim λ o z=>⟨o,z.1⟩}
def oG{x:Str}{a:Addr}(e:env.cells.lookup x=some a):a∈env.locals::xN env:=.tail _ (xu.mpr {(x,a),mem_of_lookup e,e})
def zd(g:Gd aL Pw σ c s.heap)(X:InCallC s env.locals m env.cells cm s₁):aN KA c s.heap (kB env c) s₁.heap/\Gd aL Pw σ (kB env c) s₁.heap:=by
 have sub:∀a∈c.H,a∈(kB env c).H:=λ a m=> .tail _ (sJ _ m);have b:∀a∈(kB env c).H,a∈c.H∨s.heap.get? a=none/\∃o,s₁.heap.get? a=some o:=λ a m=>(a0.mp m).elim (λ e=> .inr (iJ X (e▸.head _))) λ m=>(e6.mp m).elim (λ m=> .inr (iJ X (.tail _ m))) .inl;have d:∀a∈(kB env c).Fs,a∈c.Fs∨s.heap.get? a=none:=λ a m=>(a0.mp m).elim (λ e=> .inr (iJ X (e▸.head _)).1) .inl;have st:aN KA c _ (kB env c) _:=aN.y1 X.toInCall.keep rfl rfl sub (λ a m=>(b a m).imp id (·.1)) d;exact {st,g.grow X.toInCall.keep st rfl rfl {λ a m=>sub a (g.ok.s a m),λ a m=>(a0.mp m).elim (λ e=>e▸.head _) λ m=>sub a (g.ok.f a m)} b d}
noncomputable abbrev bJ(A:Around)(env:Env)(l:List Env)(d:Nat)(κ:List (Str×NameKind))(nm:List Str)(ow:Option Nat)(cl:Cm)(BK:∀{f vs σ r},cl f vs σ r->P6 d f vs σ r)(n:Nat)(c:Cx)(s:Shared):Jx:={A.deeper env,env,env::l,d,κ,ΓOf nm,ow,cl,BK,n,true,env.locals::c.Fs,c,s}
structure tX(env:Env)(κ:List (Str×NameKind)):Prop where
 k:env.scope.kind= .function
 n:env.scope.names=κ
 g:env.globals=mainGlobals
 b:env.builtins=builtinsNs
 f:env.frame=some env.locals
 c:∀x,κ.lookup x=some .cell->(env.cells.lookup x).isSome=true
def tX.kf{a:List (Str×NameKind)}(e:tX env a)(x:Str):env.kindOf x=a.lookup x:=by unfold Env.kindOf;rw [e.n]
def Ml{u:List (Str×NameKind)}{j:List Str}{f:Fn}{vs:List V}{ρ:En}{C:Option Nat}{ms:List Value}{H:Addr}(e:tX env u)(g:Gd aL Pw σ c s.heap)(X:InCallC s env.locals (bindL env.kindOf ((j.take f.np).zip ms) λ ζ=>none) env.cells (bindC env.kindOf ((j.take f.np).zip ms) λ ζ=>none) s₁)
 (B:(j.take f.np).Nodup) (F:args f vs=some ρ) (p:(j.take f.np).all (cA u true)=true) (n:freeOf C (List.range f.np)=true) (t:cy c s.heap (dv f vs) ms):ER Pw env u (ΓOf j) C H ρ (kB env c) s₁.heap:=by
 have y:∀a∈env.locals::xN env,a∉c.S:=λ a m h=>(g.low a (g.ok.s a h)).elim λ o z=>aQ ((iJ X m).1.symm.trans z);refine {e.k,e.n,e.g,e.b,λ x h=> ?_,y _ (.head _),.mk _ X.toInCall.ns λ x i v D E=> ?_}
 ·exact (nB.mp (e.c x ((e.kf x).symm.trans h))).elim λ d b=>(X.cell x d b).elim λ o z=>⟨d,o,b,z.1⟩
 ·have q:=BY F E;have r:=(List.getElem?_take_of_lt q.2).trans (ΓOf_get D);refine (aj.step g.ok (zd g X).1 _ _ t |>.get q.1).elim λ G z=> .mk G ((jg (gy.mp p x (Bs r))).elim (λ k=> .loc ((e.kf x).trans k) (nZ B r z.1 ((e.kf x).trans k))) λ k=> ?_) (.mr (λ h=>iH n (nf.mpr q.2) h) z.2)
  ·refine (nB.mp (e.c x k.2)).elim λ d b=> .cell (.inl ((e.kf x).trans k.2)) d b ?_ (y _ (oG b)) λ m=>(a0.mp m).elim (λ q=>my _ (q▸X.above x d (mem_of_lookup b))) λ m=>(g.low d (g.ok.f d m)).elim λ o z=>aQ ((iJ X (oG b)).1.symm.trans z);have w:=X.cell x d b;rw [sY B r z.1 (by rw [e.kf,k.2];decide)] at w;exact w
def O9{Q:List (Str×NameKind)}{D:List Str}{u:Fn}{vs:List V}{ρ:En}{N:Option Nat}{ms:List Value}{d n:Nat}{T:Cm}{G:∀{f vs σ r},T f vs σ r->P6 d f vs σ r}(e:tX env Q)(g:Gd aL Pw σ c s.heap)(X:InCallC s env.locals (bindL env.kindOf ((D.take u.np).zip ms) λ ζ=>none) env.cells (bindC env.kindOf ((D.take u.np).zip ms) λ ζ=>none) s₁)
 (nd:(D.take u.np).Nodup) (U:args u vs=some ρ) (J:(D.take u.np).all (cA Q true)=true) (B:freeOf N (List.range u.np)=true) (P:cy c s.heap (dv u vs) ms) (F:NA A l (d+1)) (fo:cO s.heap c l):(bJ A env l d Q D N T G n c s).I ρ env.locals σ (kB env c) s₁:=by
 have W:∀a∈env.locals::xN env,a∉c.H:=λ a m h=>(g.low a h).elim λ o z=>aQ ((iJ X m).1.symm.trans z);have M:=λ a m h=>W a m (g.ok.s a h);have C:∀a∈env.locals::xN env,a∈(kB env c).H:=λ a m=>(a0.mp m).elim (λ e=>e▸.head _) λ m=> .tail _ (sI _ m);have S:∀x k,env.cells.lookup x=some k->k≠env.locals:=λ x k h q=>my _ (q▸X.above x k (mem_of_lookup h));have Z:∀i,N=some i->(ay ρ i).isSome=true->False:=λ i j p=>(nB.mp p).elim λ v h=>iH B (nf.mpr (BY U h).2) j;have E:=X.toInCall.same
 refine {{{F.hd,show A.frames.map _=_ by rw [F.fr];rfl,?_,?_},λ e' m=> ?_,(zd g X).2,Ml e g X nd U J B P,env,l,env.locals,rfl,e.f,e.f},(zd g X).1,E.elim λ h z=>z.elim λ t z=>by rw [z],E.elim λ h z=>z.elim λ t z=>by rw [z],g.ok,rfl,λ a m=> .tail _ m,{(iJ X (.head _)).1,.head _},
  λ ζ x k j p=>{(iJ X (oG j)).1,C _ (oG j),λ m=>(a0.mp m).elim (S x k j) λ m=>W k (oG j) (g.ok.f k m),M _ (oG j),_,X.cell x k j},λ ζ x h=>e.c x ((e.kf x).symm.trans h),S,λ ζ x y k j p=>name_of_addr X.apart (mem_of_lookup j) (mem_of_lookup p),λ i j p=>(Z i j p).elim,λ ζ i j p=>(Z i j p).elim,λ a m=> ?_,g.low}
 ·exact E7 (a:=A.depth) (b:=4*d) (m:=61) ⋯ F.dp
 ·exact E7 (a:=A.units) (b:=40*d) (m:=430) ⋯ F.un
 ·exact (a0.mp m).elim (λ q=>X.toInCall.ns.elim λ o z=>z.elim λ E z=>z.elim λ n z=>by rw [q];exact .mk env.locals o e.k e.f (.head _) (M _ (.head _)) z.1 ⟨E,n,z.2.1⟩) λ m=>fo.to (c':=kB env c) (λ L o m n e=>{.tail _ m,n,o,X.toInCall.keep _ _ e,id}) e' m
 ·have m:=(a0.mp m).elim (λ e=>e▸.head _) id;exact {C a m,M a m}
def XP.leave{J:Jx}{r:R V}{e:Value}{E:VP}{h:Unit->Shared->Prop}(F:J.Fn)(x:XP J (λ e σ=>r= .ex e σ) e s)(k:∀s',x6 aL Pw r J.c₀ J.s₀ e s'->h () s'):wpAny M0 J.A (leaving J.env e) h E s:=F.o.elim λ f z=>z.elim λ L z=>x.casesOn λ p o i g u D C n I a v j q ex d=>by
 subst j
 exact qL I.g.ok I.g.cF (I.rm.fr.trans (congrArg _ z.1)) z.2 (z.1▸I.fo) ex (d.imp id λ y=>y.imp id λ y=>y.elim λ t y=>ar (z.2.symm.trans y.1)▸y.2) I.g.lt λ B st b=>
  k _ {p,o,i,g,_,n,(Inv.uI (I.qt st)).post,a,rfl,Rep.mono (Cx.fv I.g.ok (Inv.uI (I.qt st)).st) _ _ (Rep.step I.g.ok st.st _ _ q),b.mono (Cx.fv I.g.ok (Inv.uI (I.qt st)).st)}
set_option backward.match.sparseCases true in
def I2{J:Jx}{ρ:En}{x:Addr}{r:R V}{i:List Y}{b:List Stmt}{E:VP}{T:VP}{c':Cx}{s':Shared}(F:J.Fn)(p:e4 J.S i b=true)(h:Sem J.cl (ao J.n i ρ σ aM aP) r)(I:J.I ρ x σ c' s')
 (k:∀m s',vT aL Pw r J.c₀ J.s₀ m s'->T m s') (n:∀e s',x6 aL Pw r J.c₀ J.s₀ e s'->E e s'):wpAny M0 J.A (execs b J.env) (λ f s'=>T (match f with | .ret v=>v | _=> .none) s') (λ e s'=>wpAny M0 J.A (leaving J.env e) (λ ζ g=>E e g) E s') s':=
 az (QY i F p (Q:=λ v σ=>r= .ok v σ) (U:=λ e σ=>r= .ex e σ) {r,h,match r with
  | .ok _ _=>rfl
  | .ex _ _=>rfl} c' s' I) (λ f s' z=>by
   cases f with
   | next=>exact z.casesOn λ j d a c' w u t I=>k _ _ {.none,a,_,w.ok,(Inv.uI I).post,rfl}
   | brk=>exact z.casesOn λ j d a c' w u t I=>w.bad
   | ret m=>exact z.casesOn λ v a c' q o r=>k _ _ ⟨v,a,_,q,o.post,r⟩
   | cont=>exact z.elim) λ e s' z=>z.leave F (n e)
end
set_option backward.match.sparseCases true in
def IW{d n:Nat}{o:Cm}(p:∀{f vs σ r},o f vs σ r->P6 d f vs σ r){f:Addr}{e:Fn}{i:List Str}{u:FuncData}{b:List Stmt}{vs:List V}{σ:St}{r:R V}{t:Option Nat}(F:n7 aL f e i u b)(q:freeOf t (List.range e.np)=true)(G:e4 {aL,u.scope.names,ΓOf i,t} e.body b=true)
 (h:Sem o (aF (args e vs) λ ρ=>ao n e.body ρ σ aM aP) r):iN (d+1) f vs σ r:=λ A l c s L v C g k T E D=>(oy h).elim λ ρ h=>F.look.elim λ N z=>z.elim λ P z=>z.elim λ Q I=>by
 have a:(i.take e.np).length=e.np:=by rw [Bf];exact u0 F.len
 have j:(i.take e.np).Nodup:=F.nd.sublist (List.take_sublist _ _);refine codeAny_call_function (by have:=v.dp;lia) (g.bC _ _ I) rfl F.co F.gen F.body (sT g.bC F.code) ((vy g.bC F.kc).elim λ M z=>sX F.p1 F.p2 F.p3 F.p4 F.p5 j (by rw [a,k.length];exact (eg h.1).1.1) (by rw [a,←gv z.1];exact F.dl) (by rw [a,k.length,←gv z.1];exact (eg h.1).1.2.1) z.2 ?_);rw [a,k.length,←gv z.1,F.QR];refine wpAny_newFunctionEnv_cells F.kind (λ x m=>((λ x m=>jg (gy.mp F.st x.1 (Ba m).1)) x m).imp id λ z=>{z.2,eR _ _ _ _ (.inl (.inl z.2))}) λ B H y X=> ?_;subst H;exact {Heap.NoLimit.keeps {s.heap.nsMap _,.of_isNs (isNs_of_in g.bC Z0.lim.1),nsMap_none_of_in g.bC Z0.lim.1 Z0.lim.2} X.toInCall.keep,codeAny_func (I2 (J:=bJ A _ l d _ i t o p n c s) ⟨rfl,ΓOf_inj,l,_,rfl,rfl⟩ G h.2 (O9 {F.kind,rfl,F.gl,F.bl,rfl,λ x z=>eR _ _ _ _ (.inl (.inl z))} g X j h.1 F.st q (aj.append' k (yQ (yR _ z.1))) v C) E D)}
structure Gw(T:Addr->Option Fn):Prop where
 ok:∀f fn,T f=some fn->keepIn aL (.ref f)=true/\∃nm fd body ow,n7 aL f fn nm fd body/\freeOf ow (List.range fn.np)=true/\e4 {aL,fd.scope.names,ΓOf nm,ow} fn.body body=true
def I1{T:Addr->Option Fn}{n d:Nat}{e:Cm}(tk:Gw T)(b:∀{f vs σ r},e f vs σ r->P6 d f vs σ r){f:Addr}{vs:List V}{σ:St}{r:R V}(h:Sem e (aF (T f) λ a=>aF (args a vs) λ ρ=>ao n a.body ρ σ aM aP) r):P6 (d+1) f vs σ r:=
 (oy h).elim λ a h=>(tk.ok f a h.1).elim λ g z=>z.elim λ j z=>z.elim λ i z=>z.elim λ c z=>z.elim λ k z=>{IW b z.1 z.2.1 z.2.2 h.2,λ ζ=>g}
end PM.N
end
section
open PySem PySem.W PyProof.Rows PySem.Calls PySem.SeqAt PySem.StrLaws
namespace PQ
section
open PM
noncomputable section
def R7(p:Params):c7 (Kf p) ((eE.drop 0).take 16) ows=true:=⋯
def R6(p:Params):c7 (Kf p) ((eE.drop 16).take 16) ows=true:=⋯
def R5(p:Params):c7 (Kf p) ((eE.drop 32).take 16) ows=true:=⋯
def R4(p:Params):c7 (Kf p) ((eE.drop 48).take 16) ows=true:=⋯
def R3(p:Params):c7 (Kf p) ((eE.drop 64).take 16) ows=true:=⋯
def R2(p:Params):c7 (Kf p) ((eE.drop 80).take 16) ows=true:=⋯
def R1(p:Params):c7 (Kf p) ((eE.drop 96).take 16) ows=true:=⋯
def R0(p:Params):c7 (Kf p) ((eE.drop 112).take 16) ows=true:=⋯
def RZ(p:Params):c7 (Kf p) ((eE.drop 128).take 16) ows=true:=⋯
def NO(p:Params):c7 (Kf p) eE ows=true:=fz (R7 p) (fz (l:=eE.drop 16) (R6 p) (fz (l:=eE.drop 32) (R5 p) (fz (l:=eE.drop 48) (R4 p) (fz (l:=eE.drop 64) (R3 p) (fz (l:=eE.drop 80) (R2 p) (fz (l:=eE.drop 96) (R1 p) (fz (l:=eE.drop 112) (R0 p) (fz (l:=eE.drop 128) (RZ p) (⋯)))))))))
end
end
end PQ
end
section
open PySem PySem.W PyProof.Rows PySem.Calls PySem.SeqAt PySem.StrLaws
namespace PM.N
def Q8:Gw T0:={zH (PQ.NO Pw)}
def Ph:Cl λ d f vs σ r=>P6 d f vs σ r where
 mono B h:={λ A l c s a e=>h.c A l c s a {e.hd,e.fr,ag (o5 (ee (Bq 4 B) _) _) e.dp,ag (o5 (ee (Bq 40 B) _) _) e.un},h.k}
 val h:={λ A l c s a e D g=>(h g.vals).c A l c s a e D g,λ t=>(h t).k t}
 go n h:=I1 Q8 (λ h=>h) h
 frame h z p j y u E:={h.c.frame z p j y u E,λ t=>h.k λ o m=>by
  refine (u6.mp m).elim λ i b=>(y.ob i (z▸b.1)).elim λ F q=>q.elim λ G q=>q.elim λ x v=> ?_;rw [cQ b.1,b.2] at x
  exact ar x▸v.2.1}
end PM.N
end
section
open PySem PySem.W PyProof.Rows PySem.Calls PySem.SeqAt PySem.StrLaws
namespace PQ
section
open PM
noncomputable section
set_option backward.match.sparseCases true in
def OB{a h:Heap}{A}{c}{n}{v}(y:∀b o,a.get? b=some o->h.get? b=some o)(N:h.Ns A c)(k:a.nsMap A n=some v):c n=some v:=by
 unfold Heap.nsMap at k;cases q:a.get? A with
 | none=>rw [q] at k;contradiction
 | some o=>
  rw [q] at k;obtain ⟨i,es,g,d,e,_,f⟩:=N;cases (y _ _ q).symm.trans d;have k:(match o.data with | .dict es _=>nsFind es n | _=>none)=some v:=k;rw [e] at k;exact (f n).symm.trans k
def HT(p:Params):(absHeap (tf p) 986 lf).nsMap mainGlobals dL.name=some (.ref 985):=⋯
def L4{d}(h:WShape.has [] d .int=true):∃i,d= .int i:=by
 cases d<;>first
  | exact ⟨_,rfl⟩
  | contradiction
def D6{a}(h:WShape.hasItems [] a .int=true):∃l:List Int,a=l.map .int:=by
 induction a with
 | nil=>exact {[],rfl}
 | cons d a f=>
  obtain ⟨b,c⟩:=nq.mp h;obtain ⟨i,e⟩:=L4 b;obtain ⟨l,g⟩:=f c;exact ⟨i::l,by simp_all⟩
set_option tactic.hygienic true in
def HR{d}(h:WShape.has [] d (.list .int)=true):∃l:List Int,d= .list (l.map .int):=by
 cases d<;>first
  | (rename_i a
     have h:(WShape.hasItems [] a _ || false)=true:=h;rw [Bool.or_false] at h;obtain ⟨l,e⟩:=D6 h
     exact {l,by rw [e]})
  | contradiction
set_option backward.match.sparseCases true in
def Jf{args}(h:LW.row.toRowW.claim.pre args=true):∃l:List Int,args= [.list (l.map .int)]/\l.length<=63:=by
 refine (pre_splitW h).elim λ g c=> ?_;cases args with
 | nil=>contradiction
 | cons d f=>
  obtain ⟨a,b⟩:=nq.mp g;obtain ⟨l,e⟩:=HR a;cases f with
  | cons=>contradiction
  | nil=>
   subst e;refine {l,rfl,?_};by_cases q:l.length<=63
   ·exact q
   ·have i:decide (63<((l.map WData.int).length:Int))=true:=jI (by rw [cJ];lia)
    have c:(match match match some (WData.bool (decide (63<((l.map _).length:Int)))) with | some (.bool b)=>some (WData.bool _) | _=>none with
     | some (.bool false)=>some _ | some (.bool true)=>some (WData.bool _) | _=>none with | some (.bool true)=>true | _=>false)=true:=c
    rw [i] at c
    contradiction
def G6{P}{ν H}{h}{l:List Int}:∀{vs},WellAll P h vs (l.map .int)->aj KA P ν H h (l.map .int) vs:=by
 induction l with
 | nil=>intro vs w;cases w;exact rfl
 | cons i l a=>
  intro vs w;obtain ⟨v,b,e,c,d⟩:=wellAll_cons_inv w;cases c;exact {_,_,e,⟨_,rfl⟩,a d}
def zp(h:Heap):List Addr:=(List.range h.objs.size).filter λ b=>match h.get? b with
 | some o=> !yj o
 | none=>false
def oI{h}{b}:b∈zp h↔∃o,h.get? b=some o/\yj o=false:=by
 unfold zp;rw [List.mem_filter]
 constructor
 ·intro z;cases q:h.get? b with
  | none=>have z:=z.2;rw [q] at z;contradiction
  | some o=>
   have z:=z.2;rw [q] at z;exact {o,rfl,by simp_all}
 ·rintro ⟨o,e,z⟩
  exact {nf.mpr (fY e),by simp_all}
def c0(h:Heap):Cx:={[],[],[],zp h}
def S9{h}(y:YP W0 h):Gd aL W0.params [] (c0 h) h where
 ok:={(λ ζ m=>nomatch m),λ ζ m=>nomatch m}
 bC:=Gz y
 gS:=λ a m=>by
  obtain ⟨o,e,z⟩:=oI.mp m;cases q:aL.lookup a with
  | none=>rfl
  | some b=>
   cases (Gz y a b q).symm.trans e;rw [gy.mp (wA _) _ (h6 q)] at z
   contradiction
 low:=λ a m=>(oI.mp m).elim λ o z=>⟨o,z.1⟩
 ln:=rfl
 lm:=rfl
 cF:=λ ζ m=>nomatch m
 obj:=λ i o a d e=>by contradiction
 apart:=λ i j x y ζ e=>e.elim nofun nofun
def O0{h:Heap}{l:List Int}{a:List Value}(w:WellAll W0.params h a [.list (l.map .int)]):aj KA W0.params [] (zp h) h [.lst (l.map .int)] a:=by
 obtain ⟨v,c,ev,d,e⟩:=wellAll_cons_inv w;cases e;subst ev;cases d with
 | list b f=>exact {_,_,rfl,{_,_,rfl,λ m=>(oI.mp m).elim λ g z=>(by cases b.symm.trans z.1;exact absurd z.2 nofun),{0,b},G6 f},rfl}
def K2{l:List Int}{a s₁ s':Shared}{m:Value}(i:s₁.gens= #[])(z:vT aL W0.params (.ok (.bool true) []) (c0 s₁.heap) s₁ m s'):GoodWG LW.row.toRowW.claim (classAt a.heap) (ExcName.means a.heap) [.list (l.map .int)] s₁ (.ok (.ret m)) s':=by
 obtain ⟨v,r,t,e,p,q⟩:=z;cases e;subst q;refine {.inl {.bool _,.bool _,[],rfl,λ ζ=>rfl,.bool _,⋯,λ ζ=>{kO,λ ζ m=>nomatch m}},.of_keep λ b o e=> ?_,p.os,.of_eq (p.gens.trans i)};refine (p.st.keep b o e nofun nofun).elim λ u z=> ?_;have c:=z.1;cases z.2.s with
 | same=>exact c
 | fld A n y f _ g=>exact c.trans (congrArg some (z.2.e (oI.mpr {o,e,by
  obtain ⟨d,x,j,k⟩:=o;cases f
  exact g.elim (λ h=>by cases show d=_ from h;rfl) λ h=>by cases show d=_ from h.1;rfl})))
set_option tactic.hygienic true in
def NI:Good W0:=by
 intro n p J H G y a o L D r dV F _ _ _ _ i b args q A g j u f k;have s:=OB y G.T.g (HT _);cases i.symm.trans s;obtain ⟨l,e,t⟩:=Jf g;subst e
 exact az (su ((Pk (d:=0) t _ PM.N.Ph).c _ [] _ _ _ {rfl,rfl,⋯,⋯} (λ ζ m=>nomatch m) (S9 y) (O0 f) _ (λ ζ ζ z=>z) λ ζ ζ z=>z)) (λ m v z=>K2 b z) λ e v z=>by
  obtain ⟨_,_,_,_,_,h⟩:=z
  contradiction
def done:PySem.Challenge.rw_pq1109_01.Holds:=S8 (GG NI)
end
end
end PQ
end
end
theorem PySem.Challenge.cw_pq1109_01_holds : PySem.Challenge.rw_pq1109_01.Holds :=
  PQ.done
